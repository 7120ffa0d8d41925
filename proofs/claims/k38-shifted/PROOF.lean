import PyProof.Rows.All
import HandS.ExcInit
import HandS.ExcOwn
import KE.KExcInit
import KE.KTryMore
import PyProof.ExcBaseAll.ArithmeticError
import PyProof.ExcBaseAll.LookupError
import PyProof.ExcBaseAll.ValueError
import Wide.All
import OpenK.AllK
import Wide.FinOn
import KE.KStateDown
import Lean
import HandS.ForMost
import HandS.ForExc
import HandS.Wide
import HandS.Defaults
import HandS.Property
import HandS.OwnEq
import HandS.Head0
import HandS.Head1
import HandS.Head2
import HandS.HeadEnd
import HandS.HeadHook1
import HandS.HeadHook2
import HandS.HeadNt
import KE.KNestM
import KE.KSuper
import HandS.Lambda
import HandS.TupAny
import HandS.TupMul
import HandS.IsInst
import HandS.Zip
import HandS.CallSlots
import HandS.ClsMeth
import KE.KOpsOwn
import PyProof.FactsAll.int_1
import PyProof.Draws
import HandS.Zip0
import HandS.Style
import PyProof.EqAt
import PyProof.NeKinds
import PyProof.InstNe
import HandS.SortInts
import HandS.Deep
import PyProof.SumWalk
import HandS.Ends
import PyProof.ReprRoads
import HandS.RaiseMore
import HandS.Dict
import HandS.Text
import HandS.NoneIn
import HandS.Conv
import HandS.Iter
import HandS.SortRule
import HandS.SetKeys
import KE.KExcIs
import HandS.Star
import KE.KDflt
import HandS.FStr
import HandS.DeepEq
import HandS.Nested
import PySem.Challenge.RW_exactstats_k38_shifted_and_scaled
set_option Elab.async false
set_option linter.all false
set_option maxRecDepth 100000
set_option maxHeartbeats 0
namespace L3
open PySem PySem.Spec PyProof.Rows L2
/-- K may end with a row that no look-up meets: the names of defs that make lambdas -/
def TK (K : PySem.W.Frag) : List Str := match K.getLast? with
  | some (_, ⟨.none, none, .fields vs, _⟩) => vs.toList.filterMap fun v => match v with
    | .str x _ => some x
    | _ => none
  | _ => []
/-- a def's code object, its table of code objects -/
def cdA (K : PySem.W.Frag) (x : Str) : Addr := match K.lookup (He.ga K x) with
  | some ⟨_, _, .func fd, _⟩ => (match fd.code with
    | .ref c => c
    | _ => 0)
  | _ => 0
def tA (K : PySem.W.Frag) (x : Str) : Addr := match K.lookup (cdA K x) with
  | some ⟨_, _, .fields vs, _⟩ => (match vs.getD 11 .none with
    | .ref P => P
    | _ => 0)
  | _ => 0
def clsBody : Stmt → List Stmt
  | .ClassDef _ _ _ body _ _ _ _ _ _ _ => body
  | _ => []
def eqB (a b : Option Bool) : Bool := decide (a = b)
def isiB (K : PySem.W.Frag) (CR : Addr) : Bool :=
  eqB (PySem.W.kitOne K (.ref CR) (.type "int")) (some false) && (eqB (PySem.W.kitOne K (.ref CR) (.type "bool")) (some false) && (eqB (PySem.W.kitOne K (.ref CR) (.type "str")) (some false) && (eqB (PySem.W.kitOne K (.ref CR) (.type "tuple")) (some false) && (eqB (PySem.W.kitOne K (.ref CR) (.type "list")) (some false) &&
  (eqB (PySem.W.kitOne K (.ref CR) (.ref CR)) (some true) && (["NoneType", "bool", "int", "str", "tuple", "list", "dict"].all fun t => eqB (PySem.W.kitOne K (.type t) (.ref CR)) (some false)))))))
def clsIB (K : PySem.W.Frag) (C : Addr) : Bool := He.eqO (PySem.W.findIn K (.ref C) "__class__") (some (some (.builtin "object.__class__"))) && eqB (PySem.W.mroIn K C (.type "object")) (some true)
def kisiB (K : PySem.W.Frag) : Bool := He.eqO (PySem.W.specialIn K (.builtin "object.__class__") "__get__") (some (some (.builtin "getset_descriptor.__get__"))) && eqB (PySem.W.takesIn K (.builtin "object.__class__")) (some true)
structure DefX where
  ad : PySem.W.Frag → Addr
  name : Str
  qual : Str
  params : Arguments
  body : List Stmt
  scope : Scope
  dfl : List He.Dv := []
  kwd : List (Str × He.Dv) := []
  sup : Bool := false
/-- what the def closes over: nothing, or (sup) the cell of its class -/
def supCl : Bool → List (Str × Addr)
  | true => [("__class__", 0)]
  | false => []
def DefX.val (d : DefX) : He.FnW := some (d.name, d.qual, d.params, .stmts d.body, d.scope, mainGlobals, supCl d.sup, builtinsNs)
def fnX (K : PySem.W.Frag) (a : Addr) : He.FnW := match K.lookup a with
  | some ⟨_, _, .func fd, _⟩ => some (fd.name, fd.qualname, fd.params, fd.body, fd.scope, fd.globals, fd.closure.map fun p => (p.1, 0), fd.builtins)
  | _ => none
def DefX.dvs (K : PySem.W.Frag) (d : DefX) : List V := d.dfl.map (He.Dv.v K)
def DefX.kws (K : PySem.W.Frag) (d : DefX) : List (Str × V) := d.kwd.map fun q => (q.1, q.2.v K)
def DefX.ok (K : PySem.W.Frag) (d : DefX) : Bool := PySem.W.keepIn K (.ref (d.ad K)) && (match K.lookup (d.ad K) with
  | some ⟨_, _, .func fd, _⟩ => PySem.W.codeIn K fd.code d.qual && (He.dflB K fd.defaults (d.dvs K) && He.kwdB K fd.kwdefaults (d.kws K))
  | _ => false)
abbrev AlX : Type := Bool × List He.FnW
def obsX (fa : List He.Fa) (xs : List (PySem.W.Frag → Bool)) (fn : List DefX) (K : PySem.W.Frag) : AlX := ((fa.all fun f => f.ok K) && ((xs.all fun x => x K) && fn.all fun d => d.ok K), fn.map fun d => fnX K (d.ad K))
def valX (fn : List DefX) : AlX := (true, fn.map DefX.val)
def SaysX (fa : List He.Fa) (xs : List (PySem.W.Frag → Bool)) (fn : List DefX) (K : PySem.W.Frag) : Prop := obsX fa xs fn K = valX fn
def getAd (m : Str) (K : PySem.W.Frag) : Addr := match PySem.W.recIn K (He.ma K (He.ga K "Ratio") m) "property" with
  | some (.ref f :: _) => f
  | _ => 0
def propB (m : Str) (K : PySem.W.Frag) : Bool := He.eqO (PySem.W.findIn K (.ref (He.ga K "Ratio")) m) (some (some (.ref (He.ma K (He.ga K "Ratio") m)))) && (He.eqO (PySem.W.specialIn K (.ref (He.ma K (He.ga K "Ratio") m)) "__get__") (some (some (.builtin "property.__get__"))) &&
  (eqB (PySem.W.takesIn K (.ref (He.ma K (He.ga K "Ratio") m))) (some true) && (match PySem.W.recIn K (He.ma K (He.ga K "Ratio") m) "property" with
    | some (.ref _ :: _) => true
    | _ => false)))
def rfO : Option (Option Value) → Bool
  | some none => true
  | some (some (.ref _)) => true
  | _ => false
def binB (nm : String) (K : PySem.W.Frag) : Bool := PySem.W.selfFirst K (He.ga K "Ratio") && (He.eqO (PySem.W.findIn K (.ref (He.ga K "Ratio")) (PySem.dunder nm)) (some (some (.ref (He.ma K (He.ga K "Ratio") (PySem.dunder nm))))) &&
  (PySem.W.isFn K (.ref (He.ma K (He.ga K "Ratio") (PySem.dunder nm))) && (rfO (PySem.W.findIn K (.ref (He.ga K "Ratio")) (dunderR nm)) && ((PySem.W.findIn K (.type "int") (PySem.dunder nm)).isSome && ((PySem.W.findIn K (.type "int") (dunderR nm)).isSome && eqB (PySem.W.subIn K (.type "int") (.ref (He.ga K "Ratio"))) (some false))))))
def unB (nm : Str) (K : PySem.W.Frag) : Bool := He.eqO (PySem.W.findIn K (.ref (He.ga K "Ratio")) nm) (some (some (.ref (He.ma K (He.ga K "Ratio") nm)))) && PySem.W.isFn K (.ref (He.ma K (He.ga K "Ratio") nm))
def cmpB (K : PySem.W.Frag) : Bool := (He.eqO (PySem.W.findIn K (.ref (He.ga K "Ratio")) "__ne__") (some (some (.builtin "object.__ne__"))) && eqB (PySem.W.mroIn K (He.ga K "Ratio") (.type "object")) (some true)) && (unB "__eq__" K &&
  (PySem.W.notFirst K (He.ga K "Ratio") (.ref (He.ga K "Ratio")) && (["int", "bool", "str", "NoneType"].all fun t => PySem.W.notFirst K (He.ga K "Ratio") (.type t))))
inductive EB where
  | ve | le | ae
def EB.B : EB → String
  | .ve => "ValueError" | .le => "LookupError" | .ae => "ArithmeticError"
def EB.bm (b : EB) : List Value := [.type b.B, .type "Exception", .type "BaseException", .type "object"]
def EB.nw : EB → String
  | .ve => "ValueError.__new__" | .le => "LookupError.__new__" | .ae => "ArithmeticError.__new__"
def EB.it : EB → String
  | .ve => "ValueError.__init__" | .le => "LookupError.__init__" | .ae => "ArithmeticError.__init__"
def oxB (b : EB) (c f : Str) (K : PySem.W.Frag) : Bool :=
  PySem.W.excInitIn K (He.ga K c) b.bm b.nw && (PySem.W.excOver K (He.ga K c) b.bm && (PySem.W.hasDictIn K (He.ga K c) && (He.eqO (PySem.W.findIn K (.ref (He.ga K c)) "__setattr__") (some (some (.builtin "object.__setattr__"))) &&
  (eqB (PySem.W.subIn K (.ref (He.ga K c)) (.type "BaseException")) (some true) && (decide (PySem.W.typeIn K (.ref (He.ga K c)) = some (.type "type")) && (PySem.W.keepIn K (.ref (He.ga K c)) &&
  (He.eqO (PySem.W.findIn K (.ref (He.ga K c)) "__init__") (some (some (.ref (He.ma K (He.ga K c) "__init__")))) && (PySem.W.isFn K (.ref (He.ma K (He.ga K c) "__init__")) && He.eqO (PySem.W.takerIn K (He.ga K c) f) (some none)))))))))
end L3
namespace L3
open PySem PySem.Spec PyProof.Rows L2
def tbB : Obj → Bool
  | ⟨.none, none, .fields ws, zs⟩ => decide (ws.size = 0 ∧ zs.size = 0)
  | _ => false
theorem tbB_eq {o : Obj} (h : tbB o = true) : o = { cls := .none, data := .fields #[] } := by
  obtain ⟨c1, d1, d2, sl⟩ := o
  cases c1 with
  | none =>
    cases d1 with
    | none =>
      cases d2 with
      | fields ws =>
        obtain ⟨h1, h2⟩ := of_decide_eq_true (show decide (ws.size = 0 ∧ sl.size = 0) = true from h)
        rw [Array.eq_empty_of_size_eq_zero h1, Array.eq_empty_of_size_eq_zero h2]
      | _ => cases h
    | some d => cases d2 <;> cases h
  | _ => cases d1 <;> cases d2 <;> cases h
def mkT (names : List Str) : Addr × Obj := (mainGlobals, ⟨.none, none, .fields (names.map fun x => Value.str x 0).toArray, #[]⟩)
theorem lookup_app {α : Type} {a : Addr} {m : Addr × α} : ∀ {l : List (Addr × α)} {o : α}, (l ++ [m]).lookup a = some o → l.lookup a = some o ∨ (l.lookup a = none ∧ a = m.1)
  | [], o, h => by
    obtain ⟨b, x⟩ := m
    rw [List.nil_append, List.lookup_cons] at h
    cases q : (a == b) with
    | true => exact .inr ⟨rfl, eq_of_beq q⟩
    | false => rw [q] at h; cases h
  | (b, x) :: r, o, h => by
    rw [List.cons_append, List.lookup_cons] at h
    rw [List.lookup_cons]
    cases q : (a == b) with
    | true => rw [q] at h; exact .inl h
    | false => rw [q] at h; exact lookup_app h
theorem names_back : ∀ r : List Str, ((r.map fun x => Value.str x 0).filterMap fun v => match v with
    | .str x _ => some x
    | _ => none) = r
  | [] => rfl
  | x :: r => congrArg (x :: ·) (names_back r)
structure Tabs (h : Heap) (K : PySem.W.Frag) (names : List Str) : Prop where
  tk : TK K = names
  nd : (names.map (tA K)).Nodup
  hd : ∀ x ∈ names, PySem.W.CodeHd h (cdA K x) (tA K x)
  emp : ∀ x ∈ names, h.get? (tA K x) = some { cls := .none, data := .fields #[] }
  out : ∀ x ∈ names, K.lookup (tA K x) = none
end L3
namespace L3
open PySem PySem.W PySem.Calls PyProof.Rows HandSHeadRun
noncomputable section
def mkBT (i : Nat) (f : Nat → Obj) (n : Nat) : Nat → Nat → Nat → PySem.W.BT
  | 0, _, _ => .nil
  | k + 1, a, b => match Nat.blt b n with
    | true => .node (f b) (mkBT i f n k (2 * a) (a + b)) (mkBT i f n k (2 * a) (2 * a + b))
    | false => .nil
def lookN (i : Nat) : List (Nat × Obj) → Nat → Option Obj
  | [], _ => none
  | (a, o) :: r, b => match Nat.beq a b with
    | true => some o
    | false => lookN i r b
/-- the i-th state's objects: those of E in full, others by x -/
def pick (i : Nat) (E : List (Nat × Obj)) (x : Nat → Obj) (b : Nat) : Obj := match lookN i E b with
  | some o => o
  | none => x b
def stV (i : Nat) (E : List (Nat × Obj)) (x : Nat → Obj) (n k : Nat) (os : OsState) : SharedT := ⟨mkBT i (pick i E x) n 16 1 0, n, {}, #[], {}, k, os⟩
abbrev Seg : Type := Option (Flow × SharedT × Code × Pos)
/-- what stands at an address behind a piece -/
def objAt (i : Nat) (r : Seg) (b : Nat) : Obj := match r with
  | some (_, s, _, _) => (match s.tree.get b with
    | some o => o
    | none => default)
  | none => default
def segS (os : OsState) (r : Seg) : SharedT := match r with
  | some (_, s, _, _) => s
  | none => ⟨.nil, 0, {}, #[], {}, 0, os⟩
def preS (os : OsState) (r : Option (SharedT × Thread)) : SharedT := match r with
  | some (s, _) => s
  | none => ⟨.nil, 0, {}, #[], {}, 0, os⟩
def finS (os : OsState) (r : Option SharedT) : SharedT := match r with
  | some s => s
  | none => ⟨.nil, 0, {}, #[], {}, 0, os⟩
section
variable (st : SharedT → Thread → Option (SharedT × Thread)) (n0 : Nat) (ann : Option Value)
def segF : Nat → SharedT → Thread → Seg
  | 0, _, _ => none
  | m + 1, s, t => match endAt 1 t with
    | some f => some (f, s, t.code, t.pos)
    | none => match stepOk n0 ann t with
      | false => none
      | true => match st s t with
        | some (s', t') => frS s' fun s' => segF m s' t'
        | none => none
def goT : Nat → SharedT → Thread → Option (SharedT × Thread)
  | 0, s, t => some (s, t)
  | m + 1, s, t => match through t with
    | true => none
    | false => match stepOk n0 ann t with
      | false => none
      | true => match st s t with
        | some (s', t') => frS s' fun s' => goT m s' t'
        | none => none
end
section
variable {tb : String → Option Builtin} {p : Program} {w : World} {n0 : Nat} {ann : Option Value}
theorem segF_ok : ∀ {m : Nat} {s s' : SharedT} {t : Thread} {f : Flow} {c : Code} {q : Pos}, segF (stepT (denote tb) p w) n0 ann m s t = some (f, s', c, q) → segRun tb p w n0 ann 1 m s.abs t = some (f, s'.abs, c, q)
  | 0, _, _, _, _, _, _, h => by cases h
  | m + 1, s, s', t, f, c, q, h => by
    unfold segF at h
    unfold segRun
    cases he : endAt 1 t with
    | some x => rw [he] at h; cases h; rfl
    | none =>
      rw [he] at h
      cases hk : stepOk n0 ann t with
      | false => rw [hk] at h; cases h
      | true =>
        rw [hk] at h
        cases hs : stepT (denote tb) p w s t with
        | none => rw [hs] at h; cases h
        | some r =>
          obtain ⟨s2, t2⟩ := r
          rw [hs] at h
          have h3 : (frS s2 fun s' => segF (stepT (denote tb) p w) n0 ann m s' t2) = some (f, s', c, q) := h
          rw [frS_eq] at h3
          show (match step (denote tb) p w s.abs t with
            | .go s' t' => segRun tb p w n0 ann 1 m s' t'
            | .halt _ _ => none) = some (f, s'.abs, c, q)
          rw [stepT_spec hs]
          exact segF_ok h3
theorem goT_ok : ∀ {m : Nat} {s s' : SharedT} {t t' : Thread}, goT (stepT (denote tb) p w) n0 ann m s t = some (s', t') → topGo tb p w n0 ann m s.abs t = some (s'.abs, t')
  | 0, _, _, _, _, h => by cases h; rfl
  | m + 1, s, s', t, t', h => by
    unfold goT at h
    unfold topGo
    cases he : through t with
    | true => rw [he] at h; cases h
    | false =>
      rw [he] at h
      cases hk : stepOk n0 ann t with
      | false => rw [hk] at h; cases h
      | true =>
        rw [hk] at h
        cases hs : stepT (denote tb) p w s t with
        | none => rw [hs] at h; cases h
        | some r =>
          obtain ⟨s2, t2⟩ := r
          rw [hs] at h
          have h3 : (frS s2 fun s' => goT (stepT (denote tb) p w) n0 ann m s' t2) = some (s', t') := h
          rw [frS_eq] at h3
          show (match step (denote tb) p w s.abs t with
            | .go s' t' => topGo tb p w n0 ann m s' t'
            | .halt _ _ => none) = some (s'.abs, t')
          rw [stepT_spec hs]
          exact goT_ok h3
end
def execQ : List Stmt → Env → Sem Flow := PySem.W.Fast.tw12563942051412417395
theorem execQ_eq : @PySem.execs = execQ := PySem.W.Fast.te12563942051412417395
def blkQ : List Stmt → Env → Sem Unit := PySem.W.Fast.tw1066825118222455980
theorem blkQ_eq : @PySem.blockStart = blkQ := PySem.W.Fast.te1066825118222455980
def stQ (p : Program) (w : World) : SharedT → Thread → Option (SharedT × Thread) := stepQ (denQ tabQ) p w
theorem stQ_eq (p : Program) (w : World) : stepT (denote treeTable) p w = stQ p w := by
  unfold stQ
  rw [stepQ_eq, denQ_eq, tabQ_eq]
def pcsT (l : List Stmt) (env : Env) (c : Code) (p q : Pos) : Thread := ⟨(execQ l env).wrap doneF deadEnd id id, c, p, [topFrame q]⟩
def blkT (l : List Stmt) (env : Env) (c : Code) (p q : Pos) : Thread := ⟨(blkQ l env).wrap (fun _ => doneF .next) deadEnd id id, c, p, [topFrame q]⟩
section
variable {p : Program} {w : World} {env : Env} {q : Pos} {N M : Nat} {s s' : SharedT} {r : Shared}
abbrev n00 : Nat := 11
abbrev an0 : Option Value := some (.ref 6)
theorem cut_piece {l rest : List Stmt} {c : Code} {pos p' : Pos} (h : segF (stQ p w) n00 an0 N s (pcsT l env c pos q) = some (.next, s', c, p')) (k : topRun treeTable p w n00 an0 M s'.abs (restOf rest env c p' [topFrame q]) = some r) :
    topRun treeTable p w n00 an0 (N + M) s.abs (restOf (l ++ rest) env c pos [topFrame q]) = some r := by
  have e : piecesOf l env c pos [topFrame q] = pcsT l env c pos q := by
    unfold pcsT
    rw [← execQ_eq]
  rw [← stQ_eq, ← e] at h
  exact piece_app (segF_ok h) k
theorem cut_block {b : List Stmt} {c : Code} {pos p' : Pos} (h : segF (stQ p w) n00 an0 N s (blkT b env c pos q) = some (.next, s', c, p')) (k : topRun treeTable p w n00 an0 M s'.abs (restOf b env c p' [topFrame q]) = some r) :
    topRun treeTable p w n00 an0 (N + M) s.abs ⟨denote treeTable (.body b env), c, pos, [topFrame q]⟩ = some r := by
  have e : blockOf b env c pos [topFrame q] = blkT b env c pos q := by
    unfold blkT
    rw [← blkQ_eq]
  rw [← stQ_eq, ← e] at h
  exact piece_block (segF_ok h) k
theorem cut_pre {b : List Stmt} {c : Code} {pos : Pos} (h : goT (stQ p w) n00 an0 N s (topStub p) = some (s', ⟨denQ tabQ (.body b env), c, pos, [topFrame q]⟩)) (k : topRun treeTable p w n00 an0 M s'.abs ⟨denote treeTable (.body b env), c, pos, [topFrame q]⟩ = some r) :
    topRun treeTable p w n00 an0 (N + M) s.abs (topStub p) = some r := by
  rw [← stQ_eq, ← denQ_eq, ← tabQ_eq] at h
  exact go_top (goT_ok h) k
theorem cut_end {c : Code} {pos : Pos} (h : goF (stQ p w) n00 an0 N s ⟨doneF .next, c, pos, [topFrame q]⟩ = some s') : topRun treeTable p w n00 an0 N s.abs (restOf [] env c pos [topFrame q]) = some s'.abs := by
  rw [← stQ_eq] at h
  exact goF_ok h
end
def boot0 (w : World) (os : OsState) : SharedT := match putAll (boot_heap w.params).objs.toList .nil 0 with
  | some r => bootT w os r
  | none => ⟨.nil, 0, {}, #[], {}, 0, os⟩
theorem boot_put (P : Params) : (putAll (boot_heap P).objs.toList .nil 0).isSome = true := by kernel_rfl
theorem boot_len (P : Params) : (boot_heap P).objs.size = 11 := by kernel_rfl
theorem boot_an (w : World) : bootAnn w = some (.ref 6) := by kernel_rfl
theorem boot0_abs (w : World) (os : OsState) : (boot0 w os).abs = ⟨boot_heap w.params, #[], boot_drawn, boot_toks, os⟩ := by
  unfold boot0
  have h := boot_put w.params
  cases e : putAll (boot_heap w.params).objs.toList .nil 0 with
  | none => rw [e] at h; cases h
  | some r =>
    obtain ⟨t, n⟩ := r
    have eh := putAll_heap e
    show (⟨absHeap t n (boot_heap w.params).life, #[], boot_drawn, boot_toks, os⟩ : Shared) = _
    rw [eh]
theorem left_cut {p q : Program} {loose : List Str} {Xt : Shared → Bool} {α : Type} {Yf : Shared → α} {Ya : World → α} {N M : Nat}
    (e : opening p = plainProg p.main.scope.names) (hN : Nat.ble 600 N = true) (f : ∀ s, fenceModules? p s = some s) (le : Nat.ble M N = true) (S : World → OsState → SharedT)
    (run : ∀ (w : World) (os : OsState), topRun treeTable p w n00 an0 M (boot0 w os).abs (topStub p) = some (S w os).abs)
    (k1 : ∀ (w : World) (os : OsState), looksF p (boot_heap w.params) (S w os).abs = true) (k2 : ∀ (w : World) (os : OsState), openSeen q loose (importedModules p.main.body) Xt true (S w os).abs = openGood q loose)
    (k3 : ∀ (w : World) (os : OsState), Yf (S w os).abs = Ya w) : LeftO p q loose Xt Yf Ya N true := fun w => by
  obtain ⟨⟨h, gs, d, k, os⟩, a, a'⟩ := Option.map_eq_some_iff.mp (boot_open e hN f w)
  obtain ⟨rfl, rfl, rfl, rfl⟩ : h = boot_heap w.params ∧ gs = Array.mk [] ∧ d = boot_drawn ∧ k = boot_toks := by simpa using a'
  have r := topRun_mono (N - M) _ _ _ _ (run w os)
  rw [show M + (N - M) = N by have := Nat.le_of_ble_eq_true le; omega, boot0_abs] at r
  have l1' : (staticsOk (importedModules p.main.body) (boot_heap w.params) (S w os).abs.heap && namesBound p (S w os).abs.heap && gensDone (S w os).abs && laidKept (boot_heap w.params) (S w os).abs.heap) = true := k1 w os
  have r' : topRun treeTable p w (boot_heap w.params).objs.size (bootAnn w) N ⟨boot_heap w.params, #[], boot_drawn, boot_toks, os⟩ (topStub p) = some (S w os).abs := by
    rw [boot_len, boot_an]
    exact r
  have t : topFrom treeTable p w N ⟨boot_heap w.params, Array.mk [], boot_drawn, boot_toks, os⟩ = some (S w os).abs := by
    unfold topFrom
    dsimp only
    rw [boot_ns]
    show (topRun treeTable p w (boot_heap w.params).objs.size (bootAnn w) N ⟨boot_heap w.params, #[], boot_drawn, boot_toks, os⟩ (topStub p)).bind _ = _
    rw [r']
    show (match staticsOk (importedModules p.main.body) (boot_heap w.params) (S w os).abs.heap && namesBound p (S w os).abs.heap && gensDone (S w os).abs && laidKept (boot_heap w.params) (S w os).abs.heap with | true => some (S w os).abs | false => none) = _
    rw [l1']
  unfold openEnds
  rw [a]
  show (topFrom treeTable p w N _).map _ = _
  rw [t]
  exact congrArg some (Prod.ext (k2 w os) (k3 w os))
theorem head_cut {r : OpenRow} {q : Program} {H : Hook} {M : Nat} {loose : List PySem.Str} {d : DefRec} {kwd : List (PySem.Str × PySem.Expr)}
    (e : opening r.prog = plainProg r.prog.main.scope.names) (f : ∀ s, fenceModules? r.prog s = some s) (S : World → OsState → SharedT)
    (run : ∀ (w : World) (os : OsState), topRun treeTable r.prog w n00 an0 M (boot0 w os).abs (topStub r.prog) = some (S w os).abs)
    (k1 : ∀ (w : World) (os : OsState), looksF r.prog (boot_heap w.params) (S w os).abs = true)
    (k2 : ∀ (w : World) (os : OsState), seenQ q loose (importedModules r.prog.main.body) (fun s => xlAt q [] s && recOk r.toRowW.records s) (S w os).abs = openGood q loose)
    (k3 : ∀ (w : World) (os : OsState), H.obs (S w os).abs = H.val w)
    (hdef : defOf q r.name = some (d, kwd)) (hp : r.prog.theDef r.name = some (d.params, d.body, d.scope)) (hk : kwWritten? d.params.kwonlyargs d.params.kw_defaults = some kwd)
    (hwr : (!r.writes || r.records.isEmpty) = true) (w1 : r.wellSaid = true) (ok : (chainsOk q && opensWell r.prog && (frees r.toRowW && r.within.isEmpty)) = true) (hb : r.prog.bare) (hw : r.toRowW.promised)
    (call : WalkO q loose (XL q []) H.says r.toRowW d kwd fun f vs => PySem.call f vs) : r.Holds := by
  have left : LeftO r.prog q loose (fun s => xlAt q [] s && recOk r.toRowW.records s) H.obs H.val (M + 600) true :=
    left_cut (M := M) e (Nat.ble_eq_true_of_le (by omega)) f (Nat.ble_eq_true_of_le (by omega)) S run k1 (fun w os => by rw [seenQ_eq]; exact k2 w os) k3
  exact PySem.W.holds_open (r := r) (q := q) (loose := loose) (XP := XL q []) (YP := H.says) (d := d) (kwd := kwd) left H.of H.keeps (fun s z => xl_of s (Bool.and_eq_true_iff.mp z).1) XL.keeps hdef hp hk (fun s z => recFacts_of (Bool.and_eq_true_iff.mp z).2) hwr w1 ok hb hw call
end
end L3
namespace L3
open PySem PySem.Spec PyProof.Rows L2
def sel {α : Type} (j : Nat) : List Nat → List α → List α
  | c :: cs, d :: ds => match Nat.beq c j with
    | true => d :: sel j cs ds
    | false => sel j cs ds
  | _, _ => []
theorem sel_mem {α : Type} {x : α} : ∀ {cs : List Nat} {ds : List α}, cs.length = ds.length → x ∈ ds → ∃ j ∈ cs, x ∈ sel j cs ds
  | [], [], _, h => by cases h
  | c :: cs, d :: ds, e, h => by
    rcases List.mem_cons.mp h with h | h
    · refine ⟨c, List.mem_cons_self, ?_⟩
      unfold sel
      rw [show Nat.beq c c = true from Nat.beq_refl c, h]
      exact List.mem_cons_self
    · obtain ⟨j, hj, hx⟩ := sel_mem (cs := cs) (ds := ds) (by simpa using e) h
      refine ⟨j, List.mem_cons_of_mem _ hj, ?_⟩
      unfold sel
      cases Nat.beq c j with
      | true => exact List.mem_cons_of_mem _ hx
      | false => exact hx
theorem sel_all {α : Type} {p : α → Bool} {cs js : List Nat} {ds : List α} (e : Nat.beq cs.length ds.length = true) (h : (cs.all fun c => js.contains c) = true) (a : ∀ j ∈ js, (sel j cs ds).all p = true) : ds.all p = true := by
  refine List.all_eq_true.mpr fun x hx => ?_
  obtain ⟨j, hj, hm⟩ := sel_mem (Nat.eq_of_beq_eq_true e) hx
  have hj' : j ∈ js := by simpa using List.all_eq_true.mp h j hj
  exact List.all_eq_true.mp (a j hj') x hm
theorem sel_map {α β : Type} {f g : α → β} {cs js : List Nat} {ds : List α} (e : Nat.beq cs.length ds.length = true) (h : (cs.all fun c => js.contains c) = true) (a : ∀ j ∈ js, (sel j cs ds).map f = (sel j cs ds).map g) : ds.map f = ds.map g := by
  refine List.map_congr_left fun x hx => ?_
  obtain ⟨j, hj, hm⟩ := sel_mem (Nat.eq_of_beq_eq_true e) hx
  have hj' : j ∈ js := by simpa using List.all_eq_true.mp h j hj
  exact List.map_inj_left.mp (a j hj') x hm
def kOf (as : List Addr) (names : List Str) (g : Addr → Option Obj) : PySem.W.Frag := (as.map fun a => (a, (g a).getD default)) ++ [mkT names]
theorem lookup_map {g : Addr → Obj} {a : Addr} {o : Obj} : ∀ {as : List Addr}, (as.map fun a => (a, g a)).lookup a = some o → a ∈ as ∧ o = g a
  | [], h => by cases h
  | b :: r, h => by
    rw [List.map_cons, List.lookup_cons] at h
    cases q : (a == b) with
    | true =>
      rw [q] at h
      rw [eq_of_beq q]
      exact ⟨List.mem_cons_self, (Option.some.inj h).symm⟩
    | false =>
      rw [q] at h
      obtain ⟨h1, h2⟩ := lookup_map (as := r) h
      exact ⟨List.mem_cons_of_mem _ h1, h2⟩
theorem lookup_map_none {g : Addr → Obj} {a : Addr} : ∀ {as : List Addr}, (as.map fun a => (a, g a)).lookup a = none → a ∉ as
  | [], h => fun z => nomatch z
  | b :: r, h => by
    rw [List.map_cons, List.lookup_cons] at h
    cases q : (a == b) with
    | true => rw [q] at h; cases h
    | false =>
      rw [q] at h
      intro z
      rcases List.mem_cons.mp z with z | z
      · rw [z] at q
        simp at q
      · exact lookup_map_none h z
theorem kOf_at {g : Addr → Option Obj} {as : List Addr} {names : List Str} (h1 : (as.all fun a => (g a).isSome) = true) (h2 : mainGlobals ∈ as) {a : Addr} {o : Obj} (h : (kOf as names g).lookup a = some o) : a ∈ as ∧ g a = some o := by
  unfold kOf at h
  rcases lookup_app h with h | ⟨h3, h4⟩
  · obtain ⟨ha, e⟩ := lookup_map (g := fun a => (g a).getD default) h
    have hs := List.all_eq_true.mp h1 a ha
    cases q : g a with
    | none => rw [q] at hs; cases hs
    | some u =>
      rw [q] at e
      exact ⟨ha, by rw [e]; rfl⟩
  · have := lookup_map_none h3
    rw [h4] at this
    exact (this h2).elim
def tabA (as : List Addr) (names : List Str) (g : Addr → Option Obj) : Bool :=
  decide (names.map (tA (kOf as names g))).Nodup && names.all fun x => PySem.W.codeHdIn (kOf as names g) (cdA (kOf as names g) x) (tA (kOf as names g) x) && ((match g (tA (kOf as names g) x) with
    | some o => tbB o
    | none => false) && !as.contains (tA (kOf as names g) x))
def obsA (as : List Addr) (fa : List He.Fa) (xs : List (PySem.W.Frag → Bool)) (fn : List DefX) (names : List Str) (g : Addr → Option Obj) : AlX :=
  (((as.all fun a => (g a).isSome) && as.contains mainGlobals) && ((obsX fa xs fn (kOf as names g)).1 && tabA as names g), (obsX fa xs fn (kOf as names g)).2)
def hookA (as : List Addr) (fa : List He.Fa) (xs : List (PySem.W.Frag → Bool)) (fn : List DefX) (names : List Str) : PySem.W.Hook where
  α := AlX
  obs := fun s => obsA as fa xs fn names s.heap.get?
  val := fun _ => valX fn
  says := fun _ h => ∃ K : PySem.W.Frag, K.In h ∧ SaysX fa xs fn K ∧ Tabs h K names
  of := fun _ s e => by
    have e0 : obsA as fa xs fn names s.heap.get? = valX fn := e
    have e1 := (Prod.mk.inj e0).1
    have e2 := (Prod.mk.inj e0).2
    obtain ⟨a1, a2⟩ := He.ba e1
    obtain ⟨h1, h2⟩ := He.ba a1
    have h2 : mainGlobals ∈ as := by simpa using h2
    obtain ⟨a3, b1⟩ := He.ba a2
    obtain ⟨b2, b3⟩ := He.ba b1
    refine ⟨_, fun a o q => (kOf_at h1 h2 q).2, Prod.ext a3 e2, ?_, of_decide_eq_true b2, fun x hx => PySem.W.codeHd_of_K (fun a o q => (kOf_at h1 h2 q).2) (He.ba (List.all_eq_true.mp b3 x hx)).1, fun x hx => ?_, fun x hx => ?_⟩
    · unfold kOf TK
      rw [List.getLast?_append]
      exact names_back names
    · have z := (He.ba (He.ba (List.all_eq_true.mp b3 x hx)).2).1
      split at z
      · rename_i o eo
        rw [eo, tbB_eq z]
      · cases z
    · have z := (He.ba (He.ba (List.all_eq_true.mp b3 x hx)).2).2
      match q : (kOf as names s.heap.get?).lookup (tA (kOf as names s.heap.get?) x) with
      | none => rfl
      | some o =>
        have := (kOf_at h1 h2 q).1
        simp [this] at z
  keeps := fun _ _ _ ⟨K, hK, c, t⟩ k => ⟨K, PySem.W.Frag.In.keeps hK k, c, t.tk, t.nd, fun x hx => (t.hd x hx).keeps k, fun x hx => k _ _ (t.emp x hx), t.out⟩
theorem obsA_eq {as : List Addr} {fa : List He.Fa} {xs : List (PySem.W.Frag → Bool)} {fn : List DefX} {names : List Str} {g : Addr → Option Obj} {s : Shared} (h : ∀ a, g a = s.heap.get? a) : obsA as fa xs fn names g = (hookA as fa xs fn names).obs s := by
  have e : g = s.heap.get? := funext h
  rw [e] <;> rfl
/-- one part of it -/
def obsP (j : Nat) (pa pf px pn : List Nat) (as : List Addr) (fa : List He.Fa) (xs : List (PySem.W.Frag → Bool)) (fn : List DefX) (names : List Str) (g : Addr → Option Obj) : AlX :=
  (((sel j pa as).all fun a => (g a).isSome) && (((sel j pf fa).all fun f => f.ok (kOf as names g)) && (((sel j px xs).all fun x => x (kOf as names g)) && (sel j pn fn).all fun d => d.ok (kOf as names g))), (sel j pn fn).map fun d => fnX (kOf as names g) (d.ad (kOf as names g)))
def lensB (pa pf px pn js : List Nat) (as : List Addr) (fa : List He.Fa) (xs : List (PySem.W.Frag → Bool)) (fn : List DefX) : Bool :=
  (Nat.beq pa.length as.length && (Nat.beq pf.length fa.length && (Nat.beq px.length xs.length && Nat.beq pn.length fn.length))) && ((pa.all fun c => js.contains c) && ((pf.all fun c => js.contains c) && ((px.all fun c => js.contains c) && (pn.all fun c => js.contains c))))
theorem obs_parts {pa pf px pn js : List Nat} {as : List Addr} {fa : List He.Fa} {xs : List (PySem.W.Frag → Bool)} {fn : List DefX} {names : List Str} {s : PySem.W.SharedT} (l : lensB pa pf px pn js as fa xs fn = true) (hm : as.contains mainGlobals = true) (t : tabA as names (HandSHeadRun.getT s) = true)
    (h : ∀ j ∈ js, obsP j pa pf px pn as fa xs fn names (HandSHeadRun.getT s) = (true, (sel j pn fn).map DefX.val)) : (hookA as fa xs fn names).obs s.abs = valX fn := by
  rw [← obsA_eq (HandSHeadRun.getT_eq s)]
  obtain ⟨l1, l2⟩ := He.ba l
  obtain ⟨a1, l1⟩ := He.ba l1
  obtain ⟨f1, l1⟩ := He.ba l1
  obtain ⟨x1, n1⟩ := He.ba l1
  obtain ⟨a2, l2⟩ := He.ba l2
  obtain ⟨f2, l2⟩ := He.ba l2
  obtain ⟨x2, n2⟩ := He.ba l2
  have p1 := fun j (hj : j ∈ js) => He.ba (Prod.mk.inj (h j hj)).1
  have p2 := fun j (hj : j ∈ js) => (Prod.mk.inj (h j hj)).2
  have q1 := sel_all a1 a2 fun j hj => (p1 j hj).1
  have q2 := sel_all f1 f2 fun j hj => (He.ba (p1 j hj).2).1
  have q3 := sel_all x1 x2 fun j hj => (He.ba (He.ba (p1 j hj).2).2).1
  have q4 := sel_all n1 n2 fun j hj => (He.ba (He.ba (p1 j hj).2).2).2
  have q5 := sel_map n1 n2 p2
  unfold obsA obsX valX
  rw [q1, hm, q2, q3, q4, q5, t]
  rfl
/-- what stands behind a piece: objects that stood before it are met as before (those that it changed stand in full) -/
def nxV (i lo : Nat) (r : Seg) (x : Nat → Obj) (b : Nat) : Obj := match Nat.blt b lo with
  | true => x b
  | false => objAt i r b
end L3
namespace L3
open PySem PySem.Spec PyProof.Rows L2
def ts7 : List String := ["NoneType", "bool", "int", "str", "tuple", "list", "dict"]
/-- c's __eq__ is its own, its __ne__ the one of object; no right side stands first -/
def cmpNB (c : Str) (cs : List Str) (K : PySem.W.Frag) : Bool :=
  He.eqO (PySem.W.findIn K (.ref (He.ga K c)) "__ne__") (some (some (.builtin "object.__ne__"))) && (eqB (PySem.W.mroIn K (He.ga K c) (.type "object")) (some true) &&
  (He.eqO (PySem.W.findIn K (.ref (He.ga K c)) "__eq__") (some (some (.ref (He.ma K (He.ga K c) "__eq__")))) && (PySem.W.isFn K (.ref (He.ma K (He.ga K c) "__eq__")) &&
  ((ts7.all fun t => PySem.W.notFirst K (He.ga K c) (.type t)) && (PySem.W.notFirst K (He.ga K c) (.ref (He.ga K "Ratio")) && cs.all fun d => PySem.W.notFirst K (He.ga K c) (.ref (He.ga K d)))))))
/-- who is an instance of c -/
def isNB (c : Str) (yes no : List Str) (K : PySem.W.Frag) : Bool :=
  (ts7.all fun t => eqB (PySem.W.kitOne K (.type t) (.ref (He.ga K c))) (some false)) && (eqB (PySem.W.kitOne K (.ref (He.ga K "Ratio")) (.ref (He.ga K c))) (some false) &&
  ((yes.all fun d => eqB (PySem.W.kitOne K (.ref (He.ga K d)) (.ref (He.ga K c))) (some true)) && no.all fun d => eqB (PySem.W.kitOne K (.ref (He.ga K d)) (.ref (He.ga K c))) (some false)))
/-- what isinstance asks of a class -/
def ciNB (cs : List Str) (K : PySem.W.Frag) : Bool := cs.all fun d => clsIB K (He.ga K d)
def getAdN (c m : Str) (K : PySem.W.Frag) : Addr := match PySem.W.recIn K (He.ma K (He.ga K c) m) "property" with
  | some (.ref f :: _) => f
  | _ => 0
def propNB (c m : Str) (K : PySem.W.Frag) : Bool := He.eqO (PySem.W.findIn K (.ref (He.ga K c)) m) (some (some (.ref (He.ma K (He.ga K c) m)))) && (He.eqO (PySem.W.specialIn K (.ref (He.ma K (He.ga K c) m)) "__get__") (some (some (.builtin "property.__get__"))) &&
  (eqB (PySem.W.takesIn K (.ref (He.ma K (He.ga K c) m))) (some true) && (match PySem.W.recIn K (He.ma K (He.ga K c) m) "property" with
    | some (.ref _ :: _) => true
    | _ => false)))
end L3
namespace L3
open PySem PySem.Spec PyProof.Rows L2
end L3
namespace L3
open PySem PySem.Spec PyProof.Rows L2
end L3
namespace L3
open PySem PySem.Spec PyProof.Rows L2
/-- the cell that a def closes over; its code object -/
def clA (K : PySem.W.Frag) (f : Addr) : Addr := match K.lookup f with
  | some ⟨_, _, .func fd, _⟩ => (match fd.closure with
    | (_, a) :: _ => a
    | _ => 0)
  | _ => 0
def cdF (K : PySem.W.Frag) (f : Addr) : Addr := match K.lookup f with
  | some ⟨_, _, .func fd, _⟩ => (match fd.code with
    | .ref c => c
    | _ => 0)
  | _ => 0
def cellB (K : PySem.W.Frag) (cc D : Addr) : Bool := match K.lookup cc with
  | some ⟨_, _, .cell (some (.ref d)), _⟩ => decide (d = D)
  | _ => false
def fileB (K : PySem.W.Frag) (c : Addr) (file : Str) : Bool := match K.lookup c with
  | some ⟨_, _, .fields vs, _⟩ => (match vs[2]? with
    | some (Value.str x _) => decide (x = file)
    | _ => false)
  | _ => false
/-- the def of c's own method m: its cell holds c, its code object names the file -/
def supB (file c m : Str) (K : PySem.W.Frag) : Bool := cellB K (clA K (He.ma K (He.ga K c) m)) (He.ga K c) && (fileB K (cdF K (He.ma K (He.ga K c) m)) file && ((PySem.W.clsIn K (He.ga K c)).isSome && He.eqO (PySem.W.nsIn K cStatics "thirdparty.any") (some none)))
/-- super().m of instances of cs, said in a method of d: b's own m -/
def supMB (d b m : Str) (cs : List Str) (K : PySem.W.Frag) : Bool := cs.all fun c => eqB (PySem.W.mroIn K (He.ga K c) (.ref (He.ga K d))) (some true) && (He.eqO (PySem.W.ks_superIn K (He.ga K c) (He.ga K d) m) (some (some (.ref (He.ma K (He.ga K b) m)))) &&
  (decide (PySem.W.typeIn K (.ref (He.ma K (He.ga K b) m)) = some (.type "function")) && PySem.W.fnIn K (He.ma K (He.ga K b) m)))
end L3
namespace Gk38
open PySem PySem.Spec PyProof.Rows L2 L3
def top (i : Nat) : Stmt := PySem.Challenge.pw_exactstats_k38_shifted_and_scaled.main.body.getD i (.Pass ⟨0, 0, 0, 0⟩)
def fileS : Str := PySem.Challenge.pw_exactstats_k38_shifted_and_scaled.main.file
abbrev s_BadAmount___init__ : Stmt := ((clsBody (top 5)).getD 0 (.Pass ⟨0, 0, 0, 0⟩))
abbrev s_BadNumber___init__ : Stmt := ((clsBody (top 4)).getD 0 (.Pass ⟨0, 0, 0, 0⟩))
abbrev s_w_source : Stmt := (top 38)
abbrev s_w_next : Stmt := (top 39)
abbrev s_w_pick : Stmt := (top 40)
abbrev s_w_low : Stmt := (top 41)
abbrev s_w_drawn : Stmt := (top 47)
abbrev s_w_row : Stmt := (top 48)
abbrev s_w_times : Stmt := (top 44)
abbrev s_w_power : Stmt := (top 52)
abbrev s_w_plus : Stmt := (top 42)
abbrev s_w_sum : Stmt := (top 46)
abbrev s_w_powers : Stmt := (top 53)
abbrev s_is_integer : Stmt := (top 10)
abbrev s_need_amount : Stmt := (top 11)
abbrev s_Summary___init__ : Stmt := ((clsBody (top 24)).getD 0 (.Pass ⟨0, 0, 0, 0⟩))
abbrev s_common_divisor : Stmt := (top 13)
abbrev s_Ratio___init__ : Stmt := ((clsBody (top 14)).getD 0 (.Pass ⟨0, 0, 0, 0⟩))
abbrev s_Moments___init__ : Stmt := ((clsBody (top 36)).getD 0 (.Pass ⟨0, 0, 0, 0⟩))
abbrev s_w_given : Stmt := (top 49)
abbrev s_is_number : Stmt := (top 15)
abbrev s_need_number : Stmt := (top 17)
abbrev s_ratio_of : Stmt := (top 18)
abbrev s_common : Stmt := (top 20)
abbrev s_power_sums : Stmt := (top 29)
abbrev s_Moments_power_sums_of : Stmt := ((clsBody (top 36)).getD 3 (.Pass ⟨0, 0, 0, 0⟩))
abbrev s_Ratio___add__ : Stmt := ((clsBody (top 14)).getD 6 (.Pass ⟨0, 0, 0, 0⟩))
abbrev s_added : Stmt := (top 30)
abbrev s_Moments_feed : Stmt := ((clsBody (top 36)).getD 4 (.Pass ⟨0, 0, 0, 0⟩))
abbrev s_w_fed_moments : Stmt := (top 54)
abbrev s_Ratio___mul__ : Stmt := ((clsBody (top 14)).getD 10 (.Pass ⟨0, 0, 0, 0⟩))
abbrev s_power_of : Stmt := (top 22)
abbrev s_Moments_scaled : Stmt := ((clsBody (top 36)).getD 18 (.Pass ⟨0, 0, 0, 0⟩))
abbrev s_choices : Stmt := (top 34)
abbrev s_shifted_sum : Stmt := (top 35)
abbrev s_Moments_shifted : Stmt := ((clsBody (top 36)).getD 17 (.Pass ⟨0, 0, 0, 0⟩))
abbrev s_Moments_sums : Stmt := ((clsBody (top 36)).getD 2 (.Pass ⟨0, 0, 0, 0⟩))
abbrev s_Ratio_bottom : Stmt := ((clsBody (top 14)).getD 5 (.Pass ⟨0, 0, 0, 0⟩))
abbrev s_Ratio_top : Stmt := ((clsBody (top 14)).getD 4 (.Pass ⟨0, 0, 0, 0⟩))
abbrev s_w_taken : Stmt := (top 50)
abbrev s_w_all_taken : Stmt := (top 51)
abbrev s_Summary_size : Stmt := ((clsBody (top 24)).getD 1 (.Pass ⟨0, 0, 0, 0⟩))
abbrev s_Moments_order : Stmt := ((clsBody (top 36)).getD 1 (.Pass ⟨0, 0, 0, 0⟩))
abbrev s_w_minus : Stmt := (top 43)
abbrev s_is_same_kind : Stmt := (top 25)
abbrev s_Ratio___eq__ : Stmt := ((clsBody (top 14)).getD 16 (.Pass ⟨0, 0, 0, 0⟩))
abbrev s_Moments___eq__ : Stmt := ((clsBody (top 36)).getD 10 (.Pass ⟨0, 0, 0, 0⟩))
abbrev s_w_through : Stmt := (top 45)
abbrev s_w_moved_right : Stmt := (top 55)
abbrev s_Moments_copied : Stmt := ((clsBody (top 36)).getD 7 (.Pass ⟨0, 0, 0, 0⟩))
abbrev s_w_apart_right : Stmt := (top 56)
abbrev s_law : Stmt := (top 57)
def D_w_source : DefX := ⟨fun K => He.ga K "_law_source", "_law_source", "_law_source", defArgs s_w_source, defBody s_w_source, defScope s_w_source, [], [], false⟩
def D_w_next : DefX := ⟨fun K => He.ga K "_law_next", "_law_next", "_law_next", defArgs s_w_next, defBody s_w_next, defScope s_w_next, [], [], false⟩
def D_w_pick : DefX := ⟨fun K => He.ga K "_law_pick", "_law_pick", "_law_pick", defArgs s_w_pick, defBody s_w_pick, defScope s_w_pick, [], [], false⟩
def D_w_low : DefX := ⟨fun K => He.ga K "_law_low", "_law_low", "_law_low", defArgs s_w_low, defBody s_w_low, defScope s_w_low, [], [], false⟩
def D_w_drawn : DefX := ⟨fun K => He.ga K "_law_drawn", "_law_drawn", "_law_drawn", defArgs s_w_drawn, defBody s_w_drawn, defScope s_w_drawn, [], [], false⟩
def D_w_row : DefX := ⟨fun K => He.ga K "_law_row", "_law_row", "_law_row", defArgs s_w_row, defBody s_w_row, defScope s_w_row, [], [], false⟩
def D_w_times : DefX := ⟨fun K => He.ga K "_law_times", "_law_times", "_law_times", defArgs s_w_times, defBody s_w_times, defScope s_w_times, [], [], false⟩
def D_w_power : DefX := ⟨fun K => He.ga K "_law_power", "_law_power", "_law_power", defArgs s_w_power, defBody s_w_power, defScope s_w_power, [], [], false⟩
def D_w_plus : DefX := ⟨fun K => He.ga K "_law_plus", "_law_plus", "_law_plus", defArgs s_w_plus, defBody s_w_plus, defScope s_w_plus, [], [], false⟩
def D_w_sum : DefX := ⟨fun K => He.ga K "_law_sum", "_law_sum", "_law_sum", defArgs s_w_sum, defBody s_w_sum, defScope s_w_sum, [], [], false⟩
def D_w_powers : DefX := ⟨fun K => He.ga K "_law_powers", "_law_powers", "_law_powers", defArgs s_w_powers, defBody s_w_powers, defScope s_w_powers, [], [], false⟩
def D_is_integer : DefX := ⟨fun K => He.ga K "is_integer", "is_integer", "is_integer", defArgs s_is_integer, defBody s_is_integer, defScope s_is_integer, [], [], false⟩
def D_need_amount : DefX := ⟨fun K => He.ga K "need_amount", "need_amount", "need_amount", defArgs s_need_amount, defBody s_need_amount, defScope s_need_amount, [], [], false⟩
def D_Summary___init__ : DefX := ⟨fun K => He.ma K (He.ga K "Summary") "__init__", "__init__", "Summary.__init__", defArgs s_Summary___init__, defBody s_Summary___init__, defScope s_Summary___init__, [], [], false⟩
def D_common_divisor : DefX := ⟨fun K => He.ga K "common_divisor", "common_divisor", "common_divisor", defArgs s_common_divisor, defBody s_common_divisor, defScope s_common_divisor, [], [], false⟩
def D_Ratio___init__ : DefX := ⟨fun K => He.ma K (He.ga K "Ratio") "__init__", "__init__", "Ratio.__init__", defArgs s_Ratio___init__, defBody s_Ratio___init__, defScope s_Ratio___init__, [.int 1], [], false⟩
def D_Moments___init__ : DefX := ⟨fun K => He.ma K (He.ga K "Moments") "__init__", "__init__", "Moments.__init__", defArgs s_Moments___init__, defBody s_Moments___init__, defScope s_Moments___init__, [], [("order", .int 2), ("kept", .non)], true⟩
def D_w_given : DefX := ⟨fun K => He.ga K "_law_given", "_law_given", "_law_given", defArgs s_w_given, defBody s_w_given, defScope s_w_given, [], [], false⟩
def D_is_number : DefX := ⟨fun K => He.ga K "is_number", "is_number", "is_number", defArgs s_is_number, defBody s_is_number, defScope s_is_number, [], [], false⟩
def D_need_number : DefX := ⟨fun K => He.ga K "need_number", "need_number", "need_number", defArgs s_need_number, defBody s_need_number, defScope s_need_number, [], [], false⟩
def D_ratio_of : DefX := ⟨fun K => He.ga K "ratio_of", "ratio_of", "ratio_of", defArgs s_ratio_of, defBody s_ratio_of, defScope s_ratio_of, [], [], false⟩
def D_common : DefX := ⟨fun K => He.ga K "common", "common", "common", defArgs s_common, defBody s_common, defScope s_common, [], [], false⟩
def D_power_sums : DefX := ⟨fun K => He.ga K "power_sums", "power_sums", "power_sums", defArgs s_power_sums, defBody s_power_sums, defScope s_power_sums, [], [], false⟩
def D_Moments_power_sums_of : DefX := ⟨fun K => He.ma K (He.ga K "Moments") "power_sums_of", "power_sums_of", "Moments.power_sums_of", defArgs s_Moments_power_sums_of, defBody s_Moments_power_sums_of, defScope s_Moments_power_sums_of, [], [], false⟩
def D_Ratio___add__ : DefX := ⟨fun K => He.ma K (He.ga K "Ratio") "__add__", "__add__", "Ratio.__add__", defArgs s_Ratio___add__, defBody s_Ratio___add__, defScope s_Ratio___add__, [], [], false⟩
def D_added : DefX := ⟨fun K => He.ga K "added", "added", "added", defArgs s_added, defBody s_added, defScope s_added, [], [], false⟩
def D_Moments_feed : DefX := ⟨fun K => He.ma K (He.ga K "Moments") "feed", "feed", "Moments.feed", defArgs s_Moments_feed, defBody s_Moments_feed, defScope s_Moments_feed, [], [], false⟩
def D_w_fed_moments : DefX := ⟨fun K => He.ga K "_law_fed_moments", "_law_fed_moments", "_law_fed_moments", defArgs s_w_fed_moments, defBody s_w_fed_moments, defScope s_w_fed_moments, [], [], false⟩
def D_Ratio___mul__ : DefX := ⟨fun K => He.ma K (He.ga K "Ratio") "__mul__", "__mul__", "Ratio.__mul__", defArgs s_Ratio___mul__, defBody s_Ratio___mul__, defScope s_Ratio___mul__, [], [], false⟩
def D_power_of : DefX := ⟨fun K => He.ga K "power_of", "power_of", "power_of", defArgs s_power_of, defBody s_power_of, defScope s_power_of, [], [], false⟩
def D_Moments_scaled : DefX := ⟨fun K => He.ma K (He.ga K "Moments") "scaled", "scaled", "Moments.scaled", defArgs s_Moments_scaled, defBody s_Moments_scaled, defScope s_Moments_scaled, [], [], false⟩
def D_choices : DefX := ⟨fun K => He.ga K "choices", "choices", "choices", defArgs s_choices, defBody s_choices, defScope s_choices, [], [], false⟩
def D_shifted_sum : DefX := ⟨fun K => He.ga K "shifted_sum", "shifted_sum", "shifted_sum", defArgs s_shifted_sum, defBody s_shifted_sum, defScope s_shifted_sum, [], [], false⟩
def D_Moments_shifted : DefX := ⟨fun K => He.ma K (He.ga K "Moments") "shifted", "shifted", "Moments.shifted", defArgs s_Moments_shifted, defBody s_Moments_shifted, defScope s_Moments_shifted, [], [], false⟩
def D_Moments_sums : DefX := ⟨fun K => getAdN "Moments" "sums" K, "sums", "Moments.sums", defArgs s_Moments_sums, defBody s_Moments_sums, defScope s_Moments_sums, [], [], false⟩
def D_Ratio_bottom : DefX := ⟨fun K => getAd "bottom" K, "bottom", "Ratio.bottom", defArgs s_Ratio_bottom, defBody s_Ratio_bottom, defScope s_Ratio_bottom, [], [], false⟩
def D_Ratio_top : DefX := ⟨fun K => getAd "top" K, "top", "Ratio.top", defArgs s_Ratio_top, defBody s_Ratio_top, defScope s_Ratio_top, [], [], false⟩
def D_w_taken : DefX := ⟨fun K => He.ga K "_law_taken", "_law_taken", "_law_taken", defArgs s_w_taken, defBody s_w_taken, defScope s_w_taken, [], [], false⟩
def D_w_all_taken : DefX := ⟨fun K => He.ga K "_law_all_taken", "_law_all_taken", "_law_all_taken", defArgs s_w_all_taken, defBody s_w_all_taken, defScope s_w_all_taken, [], [], false⟩
def D_Summary_size : DefX := ⟨fun K => getAdN "Summary" "size" K, "size", "Summary.size", defArgs s_Summary_size, defBody s_Summary_size, defScope s_Summary_size, [], [], false⟩
def D_Moments_order : DefX := ⟨fun K => getAdN "Moments" "order" K, "order", "Moments.order", defArgs s_Moments_order, defBody s_Moments_order, defScope s_Moments_order, [], [], false⟩
def D_w_minus : DefX := ⟨fun K => He.ga K "_law_minus", "_law_minus", "_law_minus", defArgs s_w_minus, defBody s_w_minus, defScope s_w_minus, [], [], false⟩
def D_is_same_kind : DefX := ⟨fun K => He.ga K "is_same_kind", "is_same_kind", "is_same_kind", defArgs s_is_same_kind, defBody s_is_same_kind, defScope s_is_same_kind, [], [], false⟩
def D_Ratio___eq__ : DefX := ⟨fun K => He.ma K (He.ga K "Ratio") "__eq__", "__eq__", "Ratio.__eq__", defArgs s_Ratio___eq__, defBody s_Ratio___eq__, defScope s_Ratio___eq__, [], [], false⟩
def D_Moments___eq__ : DefX := ⟨fun K => He.ma K (He.ga K "Moments") "__eq__", "__eq__", "Moments.__eq__", defArgs s_Moments___eq__, defBody s_Moments___eq__, defScope s_Moments___eq__, [], [], false⟩
def D_w_through : DefX := ⟨fun K => He.ga K "_law_through", "_law_through", "_law_through", defArgs s_w_through, defBody s_w_through, defScope s_w_through, [], [], false⟩
def D_w_moved_right : DefX := ⟨fun K => He.ga K "_law_moved_right", "_law_moved_right", "_law_moved_right", defArgs s_w_moved_right, defBody s_w_moved_right, defScope s_w_moved_right, [], [], false⟩
def D_Moments_copied : DefX := ⟨fun K => He.ma K (He.ga K "Moments") "copied", "copied", "Moments.copied", defArgs s_Moments_copied, defBody s_Moments_copied, defScope s_Moments_copied, [], [], false⟩
def D_w_apart_right : DefX := ⟨fun K => He.ga K "_law_apart_right", "_law_apart_right", "_law_apart_right", defArgs s_w_apart_right, defBody s_w_apart_right, defScope s_w_apart_right, [], [], false⟩
def D_law : DefX := ⟨fun K => He.ga K "law", "law", "law", defArgs s_law, defBody s_law, defScope s_law, [], [], false⟩
def D_BadAmount___init__ : DefX := ⟨fun K => He.ma K (He.ga K "BadAmount") "__init__", "__init__", "BadAmount.__init__", defArgs s_BadAmount___init__, defBody s_BadAmount___init__, defScope s_BadAmount___init__, [], [], false⟩
def D_BadNumber___init__ : DefX := ⟨fun K => He.ma K (He.ga K "BadNumber") "__init__", "__init__", "BadNumber.__init__", defArgs s_BadNumber___init__, defBody s_BadNumber___init__, defScope s_BadNumber___init__, [], [], false⟩
def fn : List DefX := [D_w_source, D_w_next, D_w_pick, D_w_low, D_w_drawn, D_w_row, D_w_times, D_w_power, D_w_plus, D_w_sum, D_w_powers, D_is_integer, D_need_amount, D_Summary___init__, D_common_divisor, D_Ratio___init__, D_Moments___init__, D_w_given, D_is_number, D_need_number, D_ratio_of, D_common, D_power_sums, D_Moments_power_sums_of, D_Ratio___add__, D_added, D_Moments_feed, D_w_fed_moments, D_Ratio___mul__, D_power_of, D_Moments_scaled, D_choices, D_shifted_sum, D_Moments_shifted, D_Moments_sums, D_Ratio_bottom, D_Ratio_top, D_w_taken, D_w_all_taken, D_Summary_size, D_Moments_order, D_w_minus, D_is_same_kind, D_Ratio___eq__, D_Moments___eq__, D_w_through, D_w_moved_right, D_Moments_copied, D_w_apart_right, D_law, D_BadAmount___init__, D_BadNumber___init__]
def fa : List He.Fa := [.glo "_law_source", .glo "_law_next", .glo "_law_pick", .glo "_law_low", .glo "_law_drawn", .glo "_law_row", .glo "_law_times", .glo "_law_power", .glo "_law_plus", .glo "_law_sum", .glo "_law_powers", .glo "is_integer", .glo "need_amount", .glo "common_divisor", .glo "_law_given", .glo "is_number", .glo "need_number", .glo "ratio_of", .glo "common", .glo "power_sums", .glo "added", .glo "_law_fed_moments", .glo "power_of", .glo "choices", .glo "shifted_sum", .glo "_law_taken", .glo "_law_all_taken", .glo "_law_minus", .glo "is_same_kind", .glo "_law_through", .glo "_law_moved_right", .glo "_law_apart_right", .glo "law", .glo "is_number_ratios", .glo "BadAmount", .glo "BadNumber", .glo "Ratio", .cls "Ratio", .noat "Ratio" "own_top", .noat "Ratio" "own_bottom", .mkr "Ratio", .glo "Summary", .cls "Summary", .glo "Moments", .cls "Moments", .noat "Summary" "own_kind", .noat "Moments" "own_kind", .noat "Summary" "own_many", .noat "Moments" "own_many", .noat "Moments" "own_order", .noat "Moments" "own_sums", .mkr "Moments", .meth "Moments" "power_sums_of", .meth "Moments" "feed", .meth "Moments" "scaled", .meth "Moments" "shifted", .meth "Moments" "copied", .free "abs", .free "bool", .free "enumerate", .free "int", .free "isinstance", .free "len", .free "list", .free "max", .free "min", .free "range", .free "sum", .free "super", .free "tuple", .free "zip", .int "LEAST_ORDER" 2, .int "MOST_ORDER" 8]
def xs : List (PySem.W.Frag → Bool) := [kisiB, fun K => clsIB K (He.ga K "Ratio"), fun K => isiB K (He.ga K "Ratio"), supB fileS "Moments" "__init__", oxB .ve "BadAmount" "value", oxB .ve "BadNumber" "value", isNB "Summary" ["Summary", "Moments"] [], binB "add", binB "mul", propB "bottom", propB "top", cmpB, ciNB ["Summary", "Moments"], supMB "Moments" "Summary" "__init__" ["Moments"], propNB "Moments" "sums", propNB "Moments" "size", fun K => decide (getAdN "Summary" "size" K = getAdN "Moments" "size" K), propNB "Moments" "order", cmpNB "Moments" ["Summary", "Moments"], fun K => decide (He.ga K "is_number_ratios" = He.ga K "is_number")]
end Gk38
namespace Gk38
open PySem PySem.W PySem.Spec PyProof.Rows L3
noncomputable section
def loose : List Str := (["_wall", "BadInput", "Undefined", "BadNumber", "BadAmount", "BadSummary", "DividedByZero", "Impossible", "is_integer", "need_amount", "common_divisor", "Ratio"] : List Str) ++ (["is_number", "is_number_ratios", "need_number", "ratio_of", "is_less", "common", "power_of", "Summary", "is_same_kind", "LEAST_ORDER", "MOST_ORDER", "power_sums"] : List Str) ++ (["added", "reduced", "need_possible", "need_same", "choices", "shifted_sum", "Moments", "_law_source", "_law_next", "_law_pick", "_law_low", "_law_plus"] : List Str) ++ (["_law_minus", "_law_times", "_law_through", "_law_sum", "_law_drawn", "_law_row", "_law_given", "_law_taken", "_law_all_taken", "_law_power", "_law_powers", "_law_fed_moments"] : List Str) ++ (["_law_moved_right", "_law_apart_right"] : List Str)
abbrev R : PySem.W.OpenRow := PySem.W.OpenLaw.row PySem.Challenge.rw_exactstats_k38_shifted_and_scaled
abbrev PR : PySem.Program := R.prog
def bd : List Stmt := PR.main.body
def env : Env := { scope := PR.main.scope, locals := mainNs, globals := mainNs, cells := [], code := .ref 13, frame := some 14 }
def cE : Code := .body bd env
def fp : Pos := { line := 0, col := 0, endLine := 0, endCol := 0 }
def l1 : List Stmt := (bd.drop 0).take 16
def l2 : List Stmt := (bd.drop 16).take 42
theorem split : bd = l1 ++ (l2 ++ []) := by kernel_rfl
def E1 (P : Params) : List (Nat × Obj) := [(0, PySem.W.boot_o_0 P),
  (1, PySem.W.boot_o_1 P),
  (2, { cls := Value.none, data := Data.dict #[{ hash := PyData.keyHash P (Str.ofString "type.__subclasses__.ArithmeticError.0"), key := Value.str (Str.ofString "type.__subclasses__.ArithmeticError.0") 230, val := Value.int 44 0 }, { hash := PyData.keyHash P (Str.ofString "type.__subclasses__.ArithmeticError.n"), key := Value.str (Str.ofString "type.__subclasses__.ArithmeticError.n") 231, val := Value.int 1 0 }] 2 }),
  (3, { cls := Value.type "dict", data := Data.dict #[{ hash := PyData.keyHash P (Str.ofString "__name__"), key := Value.str (Str.ofString "__name__") 165, val := Value.str (Str.ofString "exactstats.ratios") 359 }, { hash := PyData.keyHash P (Str.ofString "__doc__"), key := Value.str (Str.ofString "__doc__") 166, val := Value.none }, { hash := PyData.keyHash P (Str.ofString "__package__"), key := Value.str (Str.ofString "__package__") 167, val := Value.none }, { hash := PyData.keyHash P (Str.ofString "__loader__"), key := Value.str (Str.ofString "__loader__") 168, val := Value.builtin "__main__.__loader__#opaque" }, { hash := PyData.keyHash P (Str.ofString "__spec__"), key := Value.str (Str.ofString "__spec__") 169, val := Value.none }, { hash := PyData.keyHash P (Str.ofString "__annotations__"), key := Value.str (Str.ofString "__annotations__") 170, val := Value.ref 6 }, { hash := PyData.keyHash P (Str.ofString "__builtins__"), key := Value.str (Str.ofString "__builtins__") 171, val := Value.ref 4 }, { hash := PyData.keyHash P (Str.ofString "__file__"), key := Value.str (Str.ofString "__file__") 173, val := Value.str (Str.ofString "/claim/cut.py") 172 }, { hash := PyData.keyHash P (Str.ofString "__cached__"), key := Value.str (Str.ofString "__cached__") 174, val := Value.none }, { hash := PyData.keyHash P (Str.ofString "_wall"), key := Value.str (Str.ofString "_wall") 193, val := Value.ref 21 }, { hash := PyData.keyHash P (Str.ofString "BadInput"), key := Value.str (Str.ofString "BadInput") 213, val := Value.ref 31 }, { hash := PyData.keyHash P (Str.ofString "Undefined"), key := Value.str (Str.ofString "Undefined") 233, val := Value.ref 44 }, { hash := PyData.keyHash P (Str.ofString "BadNumber"), key := Value.str (Str.ofString "BadNumber") 258, val := Value.ref 64 }, { hash := PyData.keyHash P (Str.ofString "BadAmount"), key := Value.str (Str.ofString "BadAmount") 283, val := Value.ref 83 }, { hash := PyData.keyHash P (Str.ofString "BadSummary"), key := Value.str (Str.ofString "BadSummary") 308, val := Value.ref 102 }, { hash := PyData.keyHash P (Str.ofString "DividedByZero"), key := Value.str (Str.ofString "DividedByZero") 324, val := Value.ref 114 }, { hash := PyData.keyHash P (Str.ofString "Impossible"), key := Value.str (Str.ofString "Impossible") 340, val := Value.ref 126 }, { hash := PyData.keyHash P (Str.ofString "is_integer"), key := Value.str (Str.ofString "is_integer") 349, val := Value.ref 135 }, { hash := PyData.keyHash P (Str.ofString "need_amount"), key := Value.str (Str.ofString "need_amount") 358, val := Value.ref 142 }, { hash := PyData.keyHash P (Str.ofString "common_divisor"), key := Value.str (Str.ofString "common_divisor") 368, val := Value.ref 149 }, { hash := PyData.keyHash P (Str.ofString "Ratio"), key := Value.str (Str.ofString "Ratio") 620, val := Value.ref 339 }, { hash := PyData.keyHash P (Str.ofString "is_number"), key := Value.str (Str.ofString "is_number") 627, val := Value.ref 350 }] 22 }),
  (4, PySem.W.boot_o_4 P),
  (5, PySem.W.boot_o_5 P),
  (6, PySem.W.boot_o_6 P),
  (7, PySem.W.boot_o_7 P),
  (8, PySem.W.boot_o_8 P),
  (9, PySem.W.boot_o_9 P),
  (10, PySem.W.boot_o_10 P),
  (11, { cls := Value.type "tuple", data := Data.seq #[] }),
  (12, { cls := Value.none, data := Data.fields #[Value.int 1 0, Value.int 0 0, Value.ref 20, Value.int 5 0, Value.int 0 0, Value.ref 27, Value.int 7 0, Value.int 0 0, Value.ref 40, Value.int 9 0, Value.int 0 0, Value.ref 53, Value.int 13 0, Value.int 0 0, Value.ref 72, Value.int 17 0, Value.int 0 0, Value.ref 91, Value.int 21 0, Value.int 0 0, Value.ref 110, Value.int 23 0, Value.int 0 0, Value.ref 122, Value.int 26 0, Value.int 0 0, Value.ref 134, Value.int 28 0, Value.int 0 0, Value.ref 141, Value.int 32 0, Value.int 0 0, Value.ref 148, Value.int 37 0, Value.int 0 0, Value.ref 155, Value.int 134 0, Value.int 0 0, Value.ref 349] }),
  (13, { cls := Value.type "code", data := Data.fields #[Value.str (Str.ofString "<module>") 182, Value.str (Str.ofString "<module>") 183, Value.str (Str.ofString "/claim/cut.py") 184, Value.int 1 0, Value.int 0 0, Value.int 0 0, Value.int 0 0, Value.int 0 0, Value.ref 11, Value.bool false, Value.int 181 0, Value.ref 12, Value.none, Value.none, Value.none, Value.none, Value.int 185 0, Value.int 1 0, Value.str (Str.ofString "/claim/cut.py") 186] }),
  (14, { cls := Value.type "frame", slots := #[some (Value.ref 13), some (Value.ref 3), some (Value.ref 3), none, some (Value.str (Str.ofString "__main__") 164), none, some (Value.ref 0)] })]
def E2 (P : Params) : List (Nat × Obj) := [(0, PySem.W.boot_o_0 P),
  (1, PySem.W.boot_o_1 P),
  (2, { cls := Value.none, data := Data.dict #[{ hash := PyData.keyHash P (Str.ofString "type.__subclasses__.ArithmeticError.0"), key := Value.str (Str.ofString "type.__subclasses__.ArithmeticError.0") 230, val := Value.int 44 0 }, { hash := PyData.keyHash P (Str.ofString "type.__subclasses__.ArithmeticError.n"), key := Value.str (Str.ofString "type.__subclasses__.ArithmeticError.n") 231, val := Value.int 1 0 }] 2 }),
  (3, { cls := Value.type "dict", data := Data.dict #[{ hash := PyData.keyHash P (Str.ofString "__name__"), key := Value.str (Str.ofString "__name__") 165, val := Value.str (Str.ofString "law_exactstats_k38_shifted_and_scaled") 982 }, { hash := PyData.keyHash P (Str.ofString "__doc__"), key := Value.str (Str.ofString "__doc__") 166, val := Value.none }, { hash := PyData.keyHash P (Str.ofString "__package__"), key := Value.str (Str.ofString "__package__") 167, val := Value.none }, { hash := PyData.keyHash P (Str.ofString "__loader__"), key := Value.str (Str.ofString "__loader__") 168, val := Value.builtin "__main__.__loader__#opaque" }, { hash := PyData.keyHash P (Str.ofString "__spec__"), key := Value.str (Str.ofString "__spec__") 169, val := Value.none }, { hash := PyData.keyHash P (Str.ofString "__annotations__"), key := Value.str (Str.ofString "__annotations__") 170, val := Value.ref 6 }, { hash := PyData.keyHash P (Str.ofString "__builtins__"), key := Value.str (Str.ofString "__builtins__") 171, val := Value.ref 4 }, { hash := PyData.keyHash P (Str.ofString "__file__"), key := Value.str (Str.ofString "__file__") 173, val := Value.str (Str.ofString "/claim/cut.py") 172 }, { hash := PyData.keyHash P (Str.ofString "__cached__"), key := Value.str (Str.ofString "__cached__") 174, val := Value.none }, { hash := PyData.keyHash P (Str.ofString "_wall"), key := Value.str (Str.ofString "_wall") 193, val := Value.ref 21 }, { hash := PyData.keyHash P (Str.ofString "BadInput"), key := Value.str (Str.ofString "BadInput") 213, val := Value.ref 31 }, { hash := PyData.keyHash P (Str.ofString "Undefined"), key := Value.str (Str.ofString "Undefined") 233, val := Value.ref 44 }, { hash := PyData.keyHash P (Str.ofString "BadNumber"), key := Value.str (Str.ofString "BadNumber") 258, val := Value.ref 64 }, { hash := PyData.keyHash P (Str.ofString "BadAmount"), key := Value.str (Str.ofString "BadAmount") 283, val := Value.ref 83 }, { hash := PyData.keyHash P (Str.ofString "BadSummary"), key := Value.str (Str.ofString "BadSummary") 308, val := Value.ref 102 }, { hash := PyData.keyHash P (Str.ofString "DividedByZero"), key := Value.str (Str.ofString "DividedByZero") 324, val := Value.ref 114 }, { hash := PyData.keyHash P (Str.ofString "Impossible"), key := Value.str (Str.ofString "Impossible") 340, val := Value.ref 126 }, { hash := PyData.keyHash P (Str.ofString "is_integer"), key := Value.str (Str.ofString "is_integer") 349, val := Value.ref 135 }, { hash := PyData.keyHash P (Str.ofString "need_amount"), key := Value.str (Str.ofString "need_amount") 358, val := Value.ref 142 }, { hash := PyData.keyHash P (Str.ofString "common_divisor"), key := Value.str (Str.ofString "common_divisor") 368, val := Value.ref 149 }, { hash := PyData.keyHash P (Str.ofString "Ratio"), key := Value.str (Str.ofString "Ratio") 620, val := Value.ref 339 }, { hash := PyData.keyHash P (Str.ofString "is_number"), key := Value.str (Str.ofString "is_number") 627, val := Value.ref 350 }, { hash := PyData.keyHash P (Str.ofString "is_number_ratios"), key := Value.str (Str.ofString "is_number_ratios") 628, val := Value.ref 350 }, { hash := PyData.keyHash P (Str.ofString "need_number"), key := Value.str (Str.ofString "need_number") 635, val := Value.ref 357 }, { hash := PyData.keyHash P (Str.ofString "ratio_of"), key := Value.str (Str.ofString "ratio_of") 642, val := Value.ref 364 }, { hash := PyData.keyHash P (Str.ofString "is_less"), key := Value.str (Str.ofString "is_less") 650, val := Value.ref 371 }, { hash := PyData.keyHash P (Str.ofString "common"), key := Value.str (Str.ofString "common") 656, val := Value.ref 376 }, { hash := PyData.keyHash P (Str.ofString "power_of"), key := Value.str (Str.ofString "power_of") 668, val := Value.ref 383 }, { hash := PyData.keyHash P (Str.ofString "Summary"), key := Value.str (Str.ofString "Summary") 742, val := Value.ref 432 }, { hash := PyData.keyHash P (Str.ofString "is_same_kind"), key := Value.str (Str.ofString "is_same_kind") 750, val := Value.ref 443 }, { hash := PyData.keyHash P (Str.ofString "LEAST_ORDER"), key := Value.str (Str.ofString "LEAST_ORDER") 754, val := Value.int 2 753 }, { hash := PyData.keyHash P (Str.ofString "MOST_ORDER"), key := Value.str (Str.ofString "MOST_ORDER") 756, val := Value.int 8 755 }, { hash := PyData.keyHash P (Str.ofString "power_sums"), key := Value.str (Str.ofString "power_sums") 762, val := Value.ref 448 }, { hash := PyData.keyHash P (Str.ofString "added"), key := Value.str (Str.ofString "added") 768, val := Value.ref 453 }, { hash := PyData.keyHash P (Str.ofString "reduced"), key := Value.str (Str.ofString "reduced") 774, val := Value.ref 458 }, { hash := PyData.keyHash P (Str.ofString "need_possible"), key := Value.str (Str.ofString "need_possible") 780, val := Value.ref 463 }, { hash := PyData.keyHash P (Str.ofString "need_same"), key := Value.str (Str.ofString "need_same") 788, val := Value.ref 470 }, { hash := PyData.keyHash P (Str.ofString "choices"), key := Value.str (Str.ofString "choices") 794, val := Value.ref 475 }, { hash := PyData.keyHash P (Str.ofString "shifted_sum"), key := Value.str (Str.ofString "shifted_sum") 808, val := Value.ref 482 }, { hash := PyData.keyHash P (Str.ofString "Moments"), key := Value.str (Str.ofString "Moments") 981, val := Value.ref 625 }, { hash := PyData.keyHash P (Str.ofString "_law_source"), key := Value.str (Str.ofString "_law_source") 992, val := Value.ref 634 }, { hash := PyData.keyHash P (Str.ofString "_law_next"), key := Value.str (Str.ofString "_law_next") 1003, val := Value.ref 641 }, { hash := PyData.keyHash P (Str.ofString "_law_pick"), key := Value.str (Str.ofString "_law_pick") 1011, val := Value.ref 648 }, { hash := PyData.keyHash P (Str.ofString "_law_low"), key := Value.str (Str.ofString "_law_low") 1021, val := Value.ref 655 }, { hash := PyData.keyHash P (Str.ofString "_law_plus"), key := Value.str (Str.ofString "_law_plus") 1029, val := Value.ref 662 }, { hash := PyData.keyHash P (Str.ofString "_law_minus"), key := Value.str (Str.ofString "_law_minus") 1037, val := Value.ref 669 }, { hash := PyData.keyHash P (Str.ofString "_law_times"), key := Value.str (Str.ofString "_law_times") 1045, val := Value.ref 676 }, { hash := PyData.keyHash P (Str.ofString "_law_through"), key := Value.str (Str.ofString "_law_through") 1053, val := Value.ref 683 }, { hash := PyData.keyHash P (Str.ofString "_law_sum"), key := Value.str (Str.ofString "_law_sum") 1062, val := Value.ref 690 }, { hash := PyData.keyHash P (Str.ofString "_law_drawn"), key := Value.str (Str.ofString "_law_drawn") 1070, val := Value.ref 697 }, { hash := PyData.keyHash P (Str.ofString "_law_row"), key := Value.str (Str.ofString "_law_row") 1080, val := Value.ref 704 }, { hash := PyData.keyHash P (Str.ofString "_law_given"), key := Value.str (Str.ofString "_law_given") 1086, val := Value.ref 709 }, { hash := PyData.keyHash P (Str.ofString "_law_taken"), key := Value.str (Str.ofString "_law_taken") 1093, val := Value.ref 716 }, { hash := PyData.keyHash P (Str.ofString "_law_all_taken"), key := Value.str (Str.ofString "_law_all_taken") 1099, val := Value.ref 721 }, { hash := PyData.keyHash P (Str.ofString "_law_power"), key := Value.str (Str.ofString "_law_power") 1109, val := Value.ref 728 }, { hash := PyData.keyHash P (Str.ofString "_law_powers"), key := Value.str (Str.ofString "_law_powers") 1115, val := Value.ref 733 }, { hash := PyData.keyHash P (Str.ofString "_law_fed_moments"), key := Value.str (Str.ofString "_law_fed_moments") 1125, val := Value.ref 740 }, { hash := PyData.keyHash P (Str.ofString "_law_moved_right"), key := Value.str (Str.ofString "_law_moved_right") 1131, val := Value.ref 745 }, { hash := PyData.keyHash P (Str.ofString "_law_apart_right"), key := Value.str (Str.ofString "_law_apart_right") 1142, val := Value.ref 752 }, { hash := PyData.keyHash P (Str.ofString "law"), key := Value.str (Str.ofString "law") 1153, val := Value.ref 759 }] 60 }),
  (4, PySem.W.boot_o_4 P),
  (5, PySem.W.boot_o_5 P),
  (6, PySem.W.boot_o_6 P),
  (7, PySem.W.boot_o_7 P),
  (8, PySem.W.boot_o_8 P),
  (9, PySem.W.boot_o_9 P),
  (10, PySem.W.boot_o_10 P),
  (11, { cls := Value.type "tuple", data := Data.seq #[] }),
  (12, { cls := Value.none, data := Data.fields #[Value.int 1 0, Value.int 0 0, Value.ref 20, Value.int 5 0, Value.int 0 0, Value.ref 27, Value.int 7 0, Value.int 0 0, Value.ref 40, Value.int 9 0, Value.int 0 0, Value.ref 53, Value.int 13 0, Value.int 0 0, Value.ref 72, Value.int 17 0, Value.int 0 0, Value.ref 91, Value.int 21 0, Value.int 0 0, Value.ref 110, Value.int 23 0, Value.int 0 0, Value.ref 122, Value.int 26 0, Value.int 0 0, Value.ref 134, Value.int 28 0, Value.int 0 0, Value.ref 141, Value.int 32 0, Value.int 0 0, Value.ref 148, Value.int 37 0, Value.int 0 0, Value.ref 155, Value.int 134 0, Value.int 0 0, Value.ref 349, Value.int 137 0, Value.int 0 0, Value.ref 356, Value.int 140 0, Value.int 0 0, Value.ref 363, Value.int 142 0, Value.int 0 0, Value.ref 370, Value.int 144 0, Value.int 0 0, Value.ref 375, Value.int 150 0, Value.int 0 0, Value.ref 382, Value.int 156 0, Value.int 0 0, Value.ref 389, Value.int 175 0, Value.int 0 0, Value.ref 442, Value.int 180 0, Value.int 0 0, Value.ref 447, Value.int 187 0, Value.int 0 0, Value.ref 452, Value.int 189 0, Value.int 0 0, Value.ref 457, Value.int 191 0, Value.int 0 0, Value.ref 462, Value.int 199 0, Value.int 0 0, Value.ref 469, Value.int 202 0, Value.int 0 0, Value.ref 474, Value.int 207 0, Value.int 0 0, Value.ref 481, Value.int 213 0, Value.int 0 0, Value.ref 489, Value.int 293 0, Value.int 0 0, Value.ref 633, Value.int 296 0, Value.int 0 0, Value.ref 640, Value.int 305 0, Value.int 0 0, Value.ref 647, Value.int 307 0, Value.int 0 0, Value.ref 654, Value.int 312 0, Value.int 0 0, Value.ref 661, Value.int 314 0, Value.int 0 0, Value.ref 668, Value.int 316 0, Value.int 0 0, Value.ref 675, Value.int 318 0, Value.int 0 0, Value.ref 682, Value.int 320 0, Value.int 0 0, Value.ref 689, Value.int 325 0, Value.int 0 0, Value.ref 696, Value.int 330 0, Value.int 0 0, Value.ref 703, Value.int 335 0, Value.int 0 0, Value.ref 708, Value.int 337 0, Value.int 0 0, Value.ref 715, Value.int 339 0, Value.int 0 0, Value.ref 720, Value.int 341 0, Value.int 0 0, Value.ref 727, Value.int 346 0, Value.int 0 0, Value.ref 732, Value.int 348 0, Value.int 0 0, Value.ref 739, Value.int 353 0, Value.int 0 0, Value.ref 744, Value.int 369 0, Value.int 0 0, Value.ref 751, Value.int 376 0, Value.int 0 0, Value.ref 758] }),
  (13, { cls := Value.type "code", data := Data.fields #[Value.str (Str.ofString "<module>") 182, Value.str (Str.ofString "<module>") 183, Value.str (Str.ofString "/claim/cut.py") 184, Value.int 1 0, Value.int 0 0, Value.int 0 0, Value.int 0 0, Value.int 0 0, Value.ref 11, Value.bool false, Value.int 181 0, Value.ref 12, Value.none, Value.none, Value.none, Value.none, Value.int 185 0, Value.int 1 0, Value.str (Str.ofString "/claim/cut.py") 186] }),
  (14, { cls := Value.type "frame", slots := #[some (Value.ref 13), some (Value.ref 3), some (Value.ref 3), none, some (Value.str (Str.ofString "__main__") 164), none, some (Value.ref 0)] })]
def pre (w : World) (os : OsState) := goT (stQ PR w) n00 an0 12 (boot0 w os) (topStub PR)
theorem c_pre (w : World) (os : OsState) : pre w os = some (preS os (pre w os), ⟨HandSHeadRun.denQ HandSHeadRun.tabQ (.body bd env), cE, { line := 0, col := 0, endLine := 0, endCol := 0 }, [topFrame fp]⟩) := by kernel_rfl
def blk (w : World) (os : OsState) : Seg := segF (stQ PR w) n00 an0 1 (preS os (pre w os)) (blkT bd env cE { line := 0, col := 0, endLine := 0, endCol := 0 } fp)
theorem c_blk (w : World) (os : OsState) : blk w os = some (.next, segS os (blk w os), cE, { line := 0, col := 0, endLine := 0, endCol := 0 }) := by kernel_rfl
def r1 (w : World) (os : OsState) : Seg := segF (stQ PR w) n00 an0 3196 (segS os (blk w os)) (pcsT l1 env cE { line := 0, col := 0, endLine := 0, endCol := 0 } fp)
def x1 (w : World) (os : OsState) : Nat → Obj := objAt 1 (r1 w os)
theorem c1 (w : World) (os : OsState) : r1 w os = some (.next, stV 1 (E1 w.params) (x1 w os) 351 628 os, cE, { line := 134, col := 0, endLine := 135, endCol := 56 }) := by kernel_rfl
def r2 (x : Nat → Obj) (w : World) (os : OsState) : Seg := segF (stQ PR w) n00 an0 2540 (stV 1 (E1 w.params) x 351 628 os) (pcsT l2 env cE { line := 134, col := 0, endLine := 135, endCol := 56 } fp)
theorem c2 (x : Nat → Obj) (w : World) (os : OsState) : r2 x w os = some (.next, stV 2 (E2 w.params) (nxV 2 351 (r2 x w os) x) 760 1154 os, cE, { line := 376, col := 0, endLine := 386, endCol := 56 }) := by kernel_rfl
def x2 (w : World) (os : OsState) : Nat → Obj := nxV 2 351 (r2 (x1 w os) w os) (x1 w os)
def fi (w : World) (os : OsState) := HandSHeadRun.goF (stQ PR w) n00 an0 21 (stV 2 (E2 w.params) (x2 w os) 760 1154 os) ⟨doneF .next, cE, { line := 376, col := 0, endLine := 386, endCol := 56 }, [topFrame fp]⟩
def S (w : World) (os : OsState) : SharedT := finS os (fi w os)
theorem c_fin (w : World) (os : OsState) : fi w os = some (S w os) := by kernel_rfl
theorem run (w : World) (os : OsState) : topRun treeTable PR w n00 an0 (12 + (1 + (3196 + (2540 + (21))))) (boot0 w os).abs (topStub PR) = some (S w os).abs := by
  have h := cut_piece (c1 w os) (cut_piece (c2 (x1 w os) w os) (cut_end (c_fin w os)))
  rw [← split] at h
  exact cut_pre (c_pre w os) (cut_block (c_blk w os) h)
theorem k1 (w : World) (os : OsState) : HandSHeadRun.looksF PR (boot_heap w.params) (S w os).abs = true := by kernel_rfl
theorem k2 (w : World) (os : OsState) : HandSHeadRun.seenQ (PySem.W.view PR [57]) loose (importedModules PR.main.body) (fun s => xlAt (PySem.W.view PR [57]) [] s && recOk R.toRowW.records s) (S w os).abs = openGood (PySem.W.view PR [57]) loose := by kernel_rfl
def as_ : List Addr := ([3, 0, 1, 2, 6, 24, 30, 31, 37, 43, 44, 50, 63, 64, 69, 82, 83, 88, 101, 102, 107, 113, 114, 119, 125, 126, 152, 172, 174, 182, 184, 192, 194, 338, 339, 386, 427, 429, 431, 432, 485, 491, 584, 624, 625, 21, 61, 80, 99, 135, 142, 149, 164, 171, 181, 191, 201, 209, 217, 224] : List Addr) ++ ([231, 238, 245, 252, 259, 266, 273, 280, 287, 294, 301, 308, 315, 322, 329, 336, 350, 357, 364, 371, 376, 383, 397, 404, 412, 419, 426, 443, 448, 453, 458, 463, 470, 475, 482, 499, 506, 514, 520, 527, 534, 541, 548, 555, 562, 569, 576, 583, 591, 598, 605, 612, 617, 622, 634, 641, 648, 655, 662, 669] : List Addr) ++ ([676, 683, 690, 697, 704, 709, 716, 721, 728, 733, 740, 745, 752, 759, 9, 13, 20, 27, 40, 53, 60, 72, 79, 91, 98, 110, 122, 134, 141, 148, 155, 163, 170, 180, 190, 200, 208, 216, 223, 230, 237, 244, 251, 258, 265, 272, 279, 286, 293, 300, 307, 314, 321, 328, 335, 349, 356, 363, 370, 375] : List Addr) ++ ([382, 389, 396, 403, 411, 418, 425, 442, 447, 452, 457, 462, 469, 474, 481, 489, 498, 505, 513, 519, 526, 533, 540, 547, 554, 561, 568, 575, 582, 590, 597, 604, 611, 616, 621, 633, 640, 647, 654, 661, 668, 675, 682, 689, 696, 703, 708, 715, 720, 727, 732, 739, 744, 751, 758, 4, 5, 7, 11, 15] : List Addr) ++ ([17, 18, 22, 25, 29, 32, 35, 38, 42, 45, 48, 51, 55, 57, 58, 62, 67, 70, 74, 76, 77, 81, 86, 89, 93, 95, 96, 100, 105, 108, 112, 117, 120, 124, 129, 131, 132, 136, 138, 139, 143, 145, 146, 150, 153, 157, 158, 160, 161, 165, 167, 168, 173, 175, 177, 178, 183, 185, 187, 188] : List Addr) ++ ([193, 195, 197, 198, 202, 203, 205, 206, 210, 211, 213, 214, 218, 220, 221, 225, 227, 228, 232, 234, 235, 239, 241, 242, 246, 248, 249, 253, 255, 256, 260, 262, 263, 267, 269, 270, 274, 276, 277, 281, 283, 284, 288, 290, 291, 295, 297, 298, 302, 304, 305, 309, 311, 312, 316, 318, 319, 323, 325, 326] : List Addr) ++ ([330, 332, 333, 337, 340, 341, 344, 346, 347, 351, 353, 354, 358, 360, 361, 365, 367, 368, 372, 377, 379, 380, 384, 387, 391, 393, 394, 398, 400, 401, 405, 406, 408, 409, 413, 415, 416, 420, 422, 423, 428, 430, 433, 434, 437, 439, 440, 444, 449, 454, 459, 464, 466, 467, 471, 476, 478, 479, 483, 486] : List Addr) ++ ([487, 492, 493, 495, 496, 500, 502, 503, 507, 508, 510, 511, 515, 516, 521, 523, 524, 528, 530, 531, 535, 537, 538, 542, 544, 545, 549, 551, 552, 556, 558, 559, 563, 565, 566, 570, 572, 573, 577, 579, 580, 585, 587, 588, 592, 594, 595, 599, 601, 602, 606, 608, 609, 613, 618, 623, 628, 630, 631, 635] : List Addr) ++ ([637, 638, 642, 644, 645, 649, 651, 652, 656, 658, 659, 663, 665, 666, 670, 672, 673, 677, 679, 680, 684, 686, 687, 691, 693, 694, 698, 700, 701, 705, 710, 712, 713, 717, 722, 724, 725, 729, 734, 736, 737, 741, 746, 748, 749, 753, 755, 756] : List Addr)
def pa : List Nat := ([1, 1, 1, 1, 1, 1, 1, 1, 1, 1, 1, 1, 1, 1, 1, 1, 1, 1, 1, 1, 1, 1, 1, 1, 1, 1, 1, 1, 1, 1, 1, 1, 1, 1, 1, 2, 2, 2, 2, 2, 2, 2, 2, 2, 2, 1, 1, 1, 1, 1, 1, 1, 1, 1, 1, 1, 1, 1, 1, 1] : List Nat) ++ ([1, 1, 1, 1, 1, 1, 1, 1, 1, 1, 1, 1, 1, 1, 1, 1, 1, 2, 2, 2, 2, 2, 2, 2, 2, 2, 2, 2, 2, 2, 2, 2, 2, 2, 2, 2, 2, 2, 2, 2, 2, 2, 2, 2, 2, 2, 2, 2, 2, 2, 2, 2, 2, 2, 2, 2, 2, 2, 2, 2] : List Nat) ++ ([2, 2, 2, 2, 2, 2, 2, 2, 2, 2, 2, 2, 2, 2, 1, 1, 1, 1, 1, 1, 1, 1, 1, 1, 1, 1, 1, 1, 1, 1, 1, 1, 1, 1, 1, 1, 1, 1, 1, 1, 1, 1, 1, 1, 1, 1, 1, 1, 1, 1, 1, 1, 1, 1, 1, 1, 2, 2, 2, 2] : List Nat) ++ ([2, 2, 2, 2, 2, 2, 2, 2, 2, 2, 2, 2, 2, 2, 2, 2, 2, 2, 2, 2, 2, 2, 2, 2, 2, 2, 2, 2, 2, 2, 2, 2, 2, 2, 2, 2, 2, 2, 2, 2, 2, 2, 2, 2, 2, 2, 2, 2, 2, 2, 2, 2, 2, 2, 2, 1, 1, 1, 1, 1] : List Nat) ++ ([1, 1, 1, 1, 1, 1, 1, 1, 1, 1, 1, 1, 1, 1, 1, 1, 1, 1, 1, 1, 1, 1, 1, 1, 1, 1, 1, 1, 1, 1, 1, 1, 1, 1, 1, 1, 1, 1, 1, 1, 1, 1, 1, 1, 1, 1, 1, 1, 1, 1, 1, 1, 1, 1, 1, 1, 1, 1, 1, 1] : List Nat) ++ ([1, 1, 1, 1, 1, 1, 1, 1, 1, 1, 1, 1, 1, 1, 1, 1, 1, 1, 1, 1, 1, 1, 1, 1, 1, 1, 1, 1, 1, 1, 1, 1, 1, 1, 1, 1, 1, 1, 1, 1, 1, 1, 1, 1, 1, 1, 1, 1, 1, 1, 1, 1, 1, 1, 1, 1, 1, 1, 1, 1] : List Nat) ++ ([1, 1, 1, 1, 1, 1, 1, 1, 1, 2, 2, 2, 2, 2, 2, 2, 2, 2, 2, 2, 2, 2, 2, 2, 2, 2, 2, 2, 2, 2, 2, 2, 2, 2, 2, 2, 2, 2, 2, 2, 2, 2, 2, 2, 2, 2, 2, 2, 2, 2, 2, 2, 2, 2, 2, 2, 2, 2, 2, 2] : List Nat) ++ ([2, 2, 2, 2, 2, 2, 2, 2, 2, 2, 2, 2, 2, 2, 2, 2, 2, 2, 2, 2, 2, 2, 2, 2, 2, 2, 2, 2, 2, 2, 2, 2, 2, 2, 2, 2, 2, 2, 2, 2, 2, 2, 2, 2, 2, 2, 2, 2, 2, 2, 2, 2, 2, 2, 2, 2, 2, 2, 2, 2] : List Nat) ++ ([2, 2, 2, 2, 2, 2, 2, 2, 2, 2, 2, 2, 2, 2, 2, 2, 2, 2, 2, 2, 2, 2, 2, 2, 2, 2, 2, 2, 2, 2, 2, 2, 2, 2, 2, 2, 2, 2, 2, 2, 2, 2, 2, 2, 2, 2, 2, 2] : List Nat)
def pf : List Nat := ([2, 2, 2, 2, 2, 2, 2, 2, 2, 2, 2, 2, 2, 2, 2, 2, 2, 2, 2, 2, 2, 2, 2, 2, 2, 2, 2, 2, 2, 2, 2, 2, 2, 2, 2, 2, 2, 2, 2, 2, 2, 2, 2, 2, 2, 2, 2, 2, 2, 2, 2, 2, 2, 2, 2, 2, 2, 2, 2, 2] : List Nat) ++ ([2, 2, 2, 2, 2, 2, 2, 2, 2, 2, 2, 2, 2] : List Nat)
def px : List Nat := [1, 1, 1, 2, 1, 1, 2, 1, 1, 1, 1, 1, 2, 2, 2, 2, 2, 2, 2, 1]
def pn : List Nat := [2, 2, 2, 2, 2, 2, 2, 2, 2, 2, 2, 1, 1, 2, 1, 1, 2, 2, 1, 2, 2, 2, 2, 2, 1, 2, 2, 2, 1, 2, 2, 2, 2, 2, 2, 1, 1, 2, 2, 2, 2, 2, 2, 1, 2, 2, 2, 2, 2, 2, 1, 1]
abbrev hk : PySem.W.Hook := hookA as_ fa xs fn []
theorem o1 (w : World) (os : OsState) : obsP 1 pa pf px pn as_ fa xs fn [] (HandSHeadRun.getT (S w os)) = (true, (sel 1 pn fn).map DefX.val) := by kernel_rfl
theorem o2 (w : World) (os : OsState) : obsP 2 pa pf px pn as_ fa xs fn [] (HandSHeadRun.getT (S w os)) = (true, (sel 2 pn fn).map DefX.val) := by kernel_rfl
theorem o_tab (w : World) (os : OsState) : tabA as_ [] (HandSHeadRun.getT (S w os)) = true := by kernel_rfl
theorem k3 (w : World) (os : OsState) : hk.obs (S w os).abs = hk.val w := obs_parts (js := [1, 2]) (by kernel_rfl) (by kernel_rfl) (o_tab w os) fun j hj => by
  simp only [List.mem_cons, List.not_mem_nil, or_false] at hj
  rcases hj with rfl | rfl
  · exact o1 w os
  · exact o2 w os
end
end Gk38
namespace L3
open PySem PySem.Spec PyProof.Rows L2
/-- a lambda: its object, its code object, that one's name, the maker's values -/
structure Clo where
  f : Addr
  c : Addr
  q : Str
  vs : List V
inductive PV where
  | non | bl (b : Bool) | int (i : Int) | str (x : Str) | rat (q : Rat)
  | tup (xs : List PV) | lst (xs : List PV) | frz (xs : List PV) | obj (C : Addr) (ns : List Str) (xs : List PV)
  | ptr (n : Nat) | adr (a : Addr) | ty (n : String)
  | dk (ks : List Key) (xs : List PV) | dt (ks : List (List Key)) (xs : List PV) | exc (c : Str) (ns : List Str) (xs : List PV) | clo (t : Clo) (xs : List PV)
/-- a slot: a value, or a list of the frame's own -/
inductive SV where
  | val (v : PV) | own (xs : List PV)
/-- a shared object that may change -/
inductive MO where
  | lst (xs : List PV) | ins (C : Addr) (ns : List Str) (xs : List PV) | dic (ks : List Key) (xs : List PV) | nst (c : Str) (ns : List Str) (xs : List PV)
inductive R (s a : Type) where
  | ok (v : a) (t : s) | exn (e : PV) (t : s) | bad
@[simp] def R.bind {s a b : Type} (r : R s a) (k : a → s → R s b) : R s b := match r with
  | .ok v t => k v t
  | .exn e t => .exn e t
  | .bad => .bad
structure S where
  env : List (Option SV)
  mu : List MO
abbrev DE := S → R S PV
abbrev DT := S → R S Bool
abbrev DA := S → R S (List PV)
inductive Fl where
  | nx | rt (v : PV) | bk | ct
abbrev DS := S → R S Fl
/-- what a def computes -/
abbrev DF := List PV → List MO → R (List MO) PV
def KT (K : PySem.W.Frag) (a : Addr) (xs : List V) : Prop := ∃ (o : Obj) (its : Array Value) (n : Nat), K.lookup a = some o ∧ o.cls = .type "tuple" ∧ o.data = .seq its n ∧ its.size ≤ sizeLine ∧ Vals xs its.toList
/-- a caught exception's object: its class, its dict -/
def exv (a C : Addr) (d : Option Addr) : HO := .ext fun h => ∃ oe vs, h.get? a = some oe ∧ oe.cls = .ref C ∧ oe.dict = d ∧ oe.data = .fields vs
def KL (K : PySem.W.Frag) (a : Addr) (xs : List V) : Prop := ∃ (o : Obj) (its : Array Value) (n : Nat), K.lookup a = some o ∧ o.cls = .type "list" ∧ o.dict = none ∧ o.data = .seq its n ∧ its.size ≤ sizeLine ∧ Vals xs its.toList
mutual
def Rep (K : PySem.W.Frag) (CR : Addr) (al : List Addr) (L : Addr → Prop) (H : Hp) : PV → V → Prop
  | .non, v => v = .non
  | .bl b, v => v = .bl b
  | .int i, v => v = .int i
  | .str x, v => v = .str x
  | .rat q, v => ∃ a dx, v = .ref a ∧ ¬ L a ∧ H a = some (.ins CR dx [("own_top", .int q.num), ("own_bottom", .int q.den)])
  | .tup xs, v => ∃ a vs, v = .ref a ∧ (¬ L a ∧ Rd H a (.tup vs) ∨ KT K a vs) ∧ RepL K CR al L H xs vs
  | .lst xs, v => ∃ a vs, v = .ref a ∧ ¬ L a ∧ H a = some (.lst vs) ∧ RepL K CR al L H xs vs
  | .frz xs, v => ∃ a vs, v = .ref a ∧ (¬ L a ∧ Rd H a (.lst vs) ∨ KL K a vs) ∧ RepL K CR al L H xs vs
  | .obj C ns xs, v => ∃ a dx vs, v = .ref a ∧ ¬ L a ∧ H a = some (.ins C dx (ns.zip vs)) ∧ ns.length = vs.length ∧ RepL K CR al L H xs vs
  | .ptr n, v => ∃ a, al[n]? = some a ∧ v = .ref a
  | .adr a, v => v = .ref a
  | .ty n, v => v = .ty n
  | .dk ks xs, v => ∃ a vs, v = .ref a ∧ ¬ L a ∧ Rd H a (.dK (ks.zip vs)) ∧ ks.length = vs.length ∧ RepL K CR al L H xs vs
  | .dt ks xs, v => ∃ a vs, v = .ref a ∧ ¬ L a ∧ Rd H a (.dT (ks.zip vs)) ∧ ks.length = vs.length ∧ RepL K CR al L H xs vs
  | .exc C ns xs, v => ∃ a d vs, v = .ref a ∧ ¬ L a ∧ H a = some (exv a (He.ga K C) d) ∧ ns.length = vs.length ∧ ((d = none ∧ ns = []) ∨ ∃ dd, d = some dd ∧ ¬ L dd ∧ H dd = some (.xd (ns.zip vs))) ∧ RepL K CR al L H xs vs
  | .clo t xs, v => v = .ref t.f ∧ ¬ L t.c ∧ H t.c = some (LamX.CodeO t.c t.q) ∧ RepL K CR al L H xs t.vs
def RepL (K : PySem.W.Frag) (CR : Addr) (al : List Addr) (L : Addr → Prop) (H : Hp) : List PV → List V → Prop
  | [], vs => vs = []
  | x :: xs, vs => ∃ v r, vs = v :: r ∧ Rep K CR al L H x v ∧ RepL K CR al L H xs r
end
/-- where one stands: the shared objects' addresses, what may be written, the abstract heap -/
structure Lc where
  al : List Addr
  M : Addr → Prop
  H : Hp
/-- fixed through a body: the class Ratio, what else must not be met (the callers' own lists), what is wanted of an exception -/
structure Gx where
  CR : Addr
  N : Addr → Prop
  W : WX
abbrev Gx.L (g : Gx) (l : Lc) : Addr → Prop := fun a => l.M a ∨ g.N a
/-- a def that makes lambdas: its table of code objects, all of one name -/
structure TabI (K : PySem.W.Frag) (g : Gx) (l : Lc) (x : Str) : Prop where
  M : l.M (tA K x)
  al : tA K x ∉ l.al
  is : ∃ ps : Array Value, l.H (tA K x) = some (.tbl ps) ∧ TriplesOk ps.toList ∧ ∀ (pos : Pos) (cv : Value), codeAmong pos ps.toList = some cv → ∃ c, cv = .ref c ∧ ¬ g.L l c ∧ l.H c = some (LamX.CodeO c (x ++ ".<locals>.<lambda>"))
abbrev RepG (K : PySem.W.Frag) (g : Gx) (l : Lc) : PV → V → Prop := Rep K g.CR l.al (g.L l) l.H
abbrev RepGL (K : PySem.W.Frag) (g : Gx) (l : Lc) : List PV → List V → Prop := RepL K g.CR l.al (g.L l) l.H
structure Step (l l' : Lc) : Prop where
  pre : ∃ b, l'.al = l.al ++ b
  new : ∀ a, l'.M a → l.M a ∨ l.H a = none
  keep : ∀ a o, ¬ l.M a → l.H a = some o → l'.H a = some o
  dom : ∀ a, l.H a ≠ none → l'.H a ≠ none
theorem Step.refl (l : Lc) : Step l l := ⟨⟨[], by simp⟩, fun _ h => .inl h, fun _ _ _ h => h, fun _ h => h⟩
theorem Step.trans {l l1 l2 : Lc} (a : Step l l1) (b : Step l1 l2) : Step l l2 where
  pre := by
    obtain ⟨x, hx⟩ := a.pre
    obtain ⟨y, hy⟩ := b.pre
    exact ⟨x ++ y, by rw [hy, hx, List.append_assoc]⟩
  new := fun c h => by
    rcases b.new c h with h | h
    · exact a.new c h
    · cases q : l.H c with
      | none => exact .inr rfl
      | some o => exact absurd h (a.dom c (by rw [q]; simp))
  keep := fun c o h e => by
    have e1 := a.keep c o h e
    refine b.keep c o (fun z => ?_) e1
    rcases a.new c z with z | z
    · exact h z
    · rw [z] at e; cases e
  dom := fun c h => b.dom c (a.dom c h)
theorem Rd.keep {H H' : Hp} {a : Addr} {o : HO} (k : ∀ o, H a = some o → H' a = some o) (h : Rd H a o) : Rd H' a o := by
  rcases h with h | ⟨u, h⟩
  · exact .inl (k _ h)
  · exact .inr ⟨u, k _ h⟩
theorem Rd.some {H : Hp} {a : Addr} {o : HO} (h : Rd H a o) : ∃ u, H a = some u := by
  rcases h with h | ⟨u, h⟩
  · exact ⟨_, h⟩
  · exact ⟨_, h⟩
theorem SqT.of2 {K : PySem.W.Frag} {L : Addr → Prop} {H : Hp} {a : Addr} {xs : List V} (h : ¬ L a ∧ Rd H a (.tup xs) ∨ KT K a xs) : SqT K H a xs := by
  rcases h with ⟨_, h⟩ | h
  · exact .inl h
  · exact .inr h
theorem SqL.of2 {K : PySem.W.Frag} {L : Addr → Prop} {H : Hp} {a : Addr} {xs : List V} (h : ¬ L a ∧ Rd H a (.lst xs) ∨ KL K a xs) : SqL K H a xs := by
  rcases h with ⟨_, h⟩ | h
  · exact .inl h
  · exact .inr h
mutual
theorem Rep.mono {K : PySem.W.Frag} {CR : Addr} {al al' : List Addr} {L L' : Addr → Prop} {H H' : Hp} (ha : ∀ (n : Nat) a, al[n]? = some a → al'[n]? = some a)
    (hL : ∀ a o, ¬ L a → H a = some o → H' a = some o ∧ ¬ L' a) : ∀ (x : PV) (v : V), Rep K CR al L H x v → Rep K CR al' L' H' x v
  | .non, v, h => h
  | .bl b, v, h => h
  | .int i, v, h => h
  | .str x, v, h => h
  | .rat q, v, h => by
    obtain ⟨a, dx, e, n, h⟩ := h
    exact ⟨a, dx, e, (hL a _ n h).2, (hL a _ n h).1⟩
  | .tup xs, v, h => by
    obtain ⟨a, vs, e, h, r⟩ := h
    refine ⟨a, vs, e, ?_, RepL.mono ha hL xs vs r⟩
    rcases h with ⟨n, h⟩ | h
    · obtain ⟨u, hu⟩ := Rd.some h
      exact .inl ⟨(hL a u n hu).2, Rd.keep (fun o q => (hL a o n q).1) h⟩
    · exact .inr h
  | .lst xs, v, h => by
    obtain ⟨a, vs, e, n, h, r⟩ := h
    exact ⟨a, vs, e, (hL a _ n h).2, (hL a _ n h).1, RepL.mono ha hL xs vs r⟩
  | .frz xs, v, h => by
    obtain ⟨a, vs, e, h, r⟩ := h
    refine ⟨a, vs, e, ?_, RepL.mono ha hL xs vs r⟩
    rcases h with ⟨n, h⟩ | h
    · obtain ⟨u, hu⟩ := Rd.some h
      exact .inl ⟨(hL a u n hu).2, Rd.keep (fun o q => (hL a o n q).1) h⟩
    · exact .inr h
  | .obj C ns xs, v, h => by
    obtain ⟨a, dx, vs, e, n, h, z, r⟩ := h
    exact ⟨a, dx, vs, e, (hL a _ n h).2, (hL a _ n h).1, z, RepL.mono ha hL xs vs r⟩
  | .ptr n, v, h => by
    obtain ⟨a, h, e⟩ := h
    exact ⟨a, ha n a h, e⟩
  | .adr a, v, h => h
  | .ty n, v, h => h
  | .dk ks xs, v, h => by
    obtain ⟨a, vs, e, n, h, z, r⟩ := h
    obtain ⟨u, hu⟩ := Rd.some h
    exact ⟨a, vs, e, (hL a u n hu).2, Rd.keep (fun o q => (hL a o n q).1) h, z, RepL.mono ha hL xs vs r⟩
  | .dt ks xs, v, h => by
    obtain ⟨a, vs, e, n, h, z, r⟩ := h
    obtain ⟨u, hu⟩ := Rd.some h
    exact ⟨a, vs, e, (hL a u n hu).2, Rd.keep (fun o q => (hL a o n q).1) h, z, RepL.mono ha hL xs vs r⟩
  | .exc C ns xs, v, h => by
    obtain ⟨a, d, vs, e, n, h, z, q, r⟩ := h
    refine ⟨a, d, vs, e, (hL a _ n h).2, (hL a _ n h).1, z, ?_, RepL.mono ha hL xs vs r⟩
    rcases q with q | ⟨dd, q1, q2, q3⟩
    · exact .inl q
    · exact .inr ⟨dd, q1, (hL dd _ q2 q3).2, (hL dd _ q2 q3).1⟩
  | .clo t xs, v, h => by
    obtain ⟨e, n, h, r⟩ := h
    exact ⟨e, (hL t.c _ n h).2, (hL t.c _ n h).1, RepL.mono ha hL xs t.vs r⟩
theorem RepL.mono {K : PySem.W.Frag} {CR : Addr} {al al' : List Addr} {L L' : Addr → Prop} {H H' : Hp} (ha : ∀ (n : Nat) a, al[n]? = some a → al'[n]? = some a)
    (hL : ∀ a o, ¬ L a → H a = some o → H' a = some o ∧ ¬ L' a) : ∀ (x : List PV) (v : List V), RepL K CR al L H x v → RepL K CR al' L' H' x v
  | [], v, h => h
  | x :: xs, v, h => by
    obtain ⟨u, r, e, h1, h2⟩ := h
    exact ⟨u, r, e, Rep.mono ha hL x u h1, RepL.mono ha hL xs r h2⟩
end
theorem Step.al {l l' : Lc} (st : Step l l') (n : Nat) (a : Addr) (h : l.al[n]? = some a) : l'.al[n]? = some a := by
  obtain ⟨b, e⟩ := st.pre
  rw [e, List.getElem?_append_left (List.getElem?_eq_some_iff.mp h).1]
  exact h
theorem Step.repL' {l l' : Lc} {g : Gx} (st : Step l l') (a : Addr) (o : HO) (n : ¬ g.L l a) (h : l.H a = some o) : l'.H a = some o ∧ ¬ g.L l' a := by
  refine ⟨st.keep a o (fun z => n (.inl z)) h, fun z => ?_⟩
  rcases z with z | z
  · rcases st.new a z with q | q
    · exact n (.inl q)
    · rw [h] at q; cases q
  · exact n (.inr z)
theorem TabI.to {K : PySem.W.Frag} {g g' : Gx} {l l' : Lc} {x : Str} (h : TabI K g l x) (hM : l'.M (tA K x)) (hal : tA K x ∉ l'.al) (hP : ∀ ps, l.H (tA K x) = some (.tbl ps) → l'.H (tA K x) = some (.tbl ps))
    (hL : ∀ c q, ¬ g.L l c → l.H c = some (LamX.CodeO c q) → l'.H c = some (LamX.CodeO c q) ∧ ¬ g'.L l' c) : TabI K g' l' x := by
  obtain ⟨ps, h1, h2, h3⟩ := h.is
  refine ⟨hM, hal, ps, hP _ h1, h2, fun pos cv e => ?_⟩
  obtain ⟨c, e1, e2, e3⟩ := h3 pos cv e
  exact ⟨c, e1, (hL c _ e2 e3).2, (hL c _ e2 e3).1⟩
theorem TabI.there {K : PySem.W.Frag} {g : Gx} {l : Lc} {x : Str} (h : TabI K g l x) : l.H (tA K x) ≠ none := by
  obtain ⟨ps, h1, _⟩ := h.is
  rw [h1]
  exact fun z => nomatch z
theorem TabI.ne {K : PySem.W.Frag} {g : Gx} {l : Lc} {x : Str} {a : Addr} {o : HO} (h : TabI K g l x) (e : l.H a = some o) (n : ∀ ps, o ≠ .tbl ps) : tA K x ≠ a := fun z => by
  obtain ⟨ps, h1, _⟩ := h.is
  rw [z, e] at h1
  exact n ps (Option.some.inj h1)
theorem TabI.ne0 {K : PySem.W.Frag} {g : Gx} {l : Lc} {x : Str} {a : Addr} (h : TabI K g l x) (e : l.H a = none) : tA K x ≠ a := fun z => h.there (by rw [z]; exact e)
theorem TabI.same {K : PySem.W.Frag} {g g' : Gx} {l : Lc} {x : Str} (h : TabI K g l x) (e : g'.N = g.N) : TabI K g' l x := h.to h.M h.al (fun _ q => q) fun c q n e2 => ⟨e2, by
  show ¬ (l.M c ∨ g'.N c)
  rw [e]
  exact n⟩
theorem Step.rep {K : PySem.W.Frag} {g : Gx} {l l' : Lc} (st : Step l l') {x : PV} {v : V} (h : RepG K g l x v) : RepG K g l' x v := Rep.mono st.al (fun a o => st.repL' a o) x v h
theorem Step.reps {K : PySem.W.Frag} {g : Gx} {l l' : Lc} (st : Step l l') {x : List PV} {v : List V} (h : RepGL K g l x v) : RepGL K g l' x v := RepL.mono st.al (fun a o => st.repL' a o) x v h
theorem RepL.length {K : PySem.W.Frag} {CR : Addr} {al : List Addr} {L : Addr → Prop} {H : Hp} : ∀ {xs : List PV} {vs : List V}, RepL K CR al L H xs vs → xs.length = vs.length
  | [], vs, h => by have e : vs = [] := h; rw [e]; rfl
  | x :: xs, vs, h => by
    obtain ⟨v, r, e, _, h2⟩ := h
    rw [e, List.length_cons, List.length_cons, RepL.length h2]
theorem RepL.get {K : PySem.W.Frag} {CR : Addr} {al : List Addr} {L : Addr → Prop} {H : Hp} : ∀ {xs : List PV} {vs : List V} {i : Nat} {x : PV}, RepL K CR al L H xs vs → xs[i]? = some x → ∃ v, vs[i]? = some v ∧ Rep K CR al L H x v
  | [], _, _, _, _, e => by simp at e
  | y :: xs, vs, 0, x, h, e => by
    obtain ⟨v, r, ev, h1, _⟩ := h
    simp only [List.getElem?_cons_zero, Option.some.injEq] at e
    subst e
    exact ⟨v, by rw [ev]; rfl, h1⟩
  | y :: xs, vs, i + 1, x, h, e => by
    obtain ⟨v, r, ev, _, h2⟩ := h
    obtain ⟨u, h3, h4⟩ := RepL.get (i := i) (x := x) h2 (by simpa using e)
    exact ⟨u, by rw [ev]; simpa using h3, h4⟩
theorem RepL.append {K : PySem.W.Frag} {CR : Addr} {al : List Addr} {L : Addr → Prop} {H : Hp} : ∀ {xs ys : List PV} {vs ws : List V}, RepL K CR al L H xs vs → RepL K CR al L H ys ws → RepL K CR al L H (xs ++ ys) (vs ++ ws)
  | [], ys, vs, ws, h, q => by have e : vs = [] := h; rw [e]; exact q
  | x :: xs, ys, vs, ws, h, q => by
    obtain ⟨v, r, ev, h1, h2⟩ := h
    exact ⟨v, r ++ ws, by rw [ev]; rfl, h1, RepL.append h2 q⟩
theorem RepL.iff {K : PySem.W.Frag} {CR : Addr} {al : List Addr} {L : Addr → Prop} {H : Hp} : ∀ {xs : List PV} {vs : List V}, RepL K CR al L H xs vs ↔ xs.length = vs.length ∧ ∀ (i : Nat) x, xs[i]? = some x → ∃ v, vs[i]? = some v ∧ Rep K CR al L H x v
  | [], [] => ⟨fun _ => ⟨rfl, fun i x h => by simp at h⟩, fun _ => rfl⟩
  | [], v :: vs => ⟨fun h => (by cases h), fun h => nomatch h.1⟩
  | x :: xs, [] => ⟨fun h => (by obtain ⟨v, r, e, _⟩ := h; exact nomatch e), fun h => nomatch h.1⟩
  | x :: xs, v :: vs => by
    refine ⟨fun h => ⟨h.length, fun i y => h.get⟩, fun ⟨h1, h2⟩ => ?_⟩
    obtain ⟨u, e, r⟩ := h2 0 x rfl
    simp only [List.getElem?_cons_zero, Option.some.injEq] at e
    subst e
    exact ⟨v, vs, rfl, r, RepL.iff.mpr ⟨by simpa using h1, fun i y hy => by simpa using h2 (i + 1) y (by simpa using hy)⟩⟩
end L3
namespace L3
open PySem PySem.Spec PyProof.Rows L2
abbrev St := L2.St
def MoRep (K : PySem.W.Frag) (g : Gx) (l : Lc) (a : Addr) : MO → Prop
  | .lst xs => ∃ vs, l.H a = some (.lst vs) ∧ RepGL K g l xs vs
  | .ins C ns xs => ∃ dx vs, l.H a = some (.ins C dx (ns.zip vs)) ∧ ns.length = vs.length ∧ RepGL K g l xs vs
  | .nst c ns xs => ∃ dx vs, l.H a = some (.ins (He.ga K c) dx (ns.zip vs)) ∧ ns.length = vs.length ∧ RepGL K g l xs vs
  | .dic ks xs => ∃ vs, l.H a = some (.dK (ks.zip vs)) ∧ ks.length = vs.length ∧ (ks.Nodup) ∧ RepGL K g l xs vs
structure Sok (K : PySem.W.Frag) (g : Gx) (l : Lc) (s : S) (σ : St) : Prop where
  len : s.env.length = σ.length
  env : ∀ (i : Nat) v, s.env[i]? = some (some (.val v)) → ∃ u, σ[i]? = some (some u) ∧ RepG K g l v u
  own : ∀ (i : Nat) xs, s.env[i]? = some (some (.own xs)) → ∃ a vs, σ[i]? = some (some (.ref a)) ∧ l.M a ∧ a ∉ l.al ∧ l.H a = some (.lst vs) ∧ RepGL K g l xs vs
  dis : ∀ (i j : Nat) xs ys a, i ≠ j → s.env[i]? = some (some (.own xs)) → s.env[j]? = some (some (.own ys)) → σ[i]? = some (some (.ref a)) → σ[j]? = some (some (.ref a)) → False
  mlen : l.al.length = s.mu.length
  mu : ∀ (n : Nat) a m, l.al[n]? = some a → s.mu[n]? = some m → MoRep K g l a m
  nd : l.al.Nodup
  alM : ∀ a, a ∈ l.al → l.M a
  there : ∀ a, l.M a ∨ g.N a → l.H a ≠ none
  mn : ∀ a, l.M a → ¬ g.N a
  tabs : ∀ x ∈ TK K, TabI K g l x
/-- an exception's abstract value -/
def RepX (K : PySem.W.Frag) (g : Gx) (l : Lc) (e : PV) (cls : Value) (dd : Option Addr) : Prop :=
  ∃ c ns xs vs, e = .exc c ns xs ∧ cls = .ref (He.ga K c) ∧ ns.length = vs.length ∧ RepGL K g l xs vs ∧ ((dd = none ∧ ns = []) ∨ ∃ d, dd = some d ∧ ¬ g.L l d ∧ l.H d = some (.xd (ns.zip vs)))
/-- from here on, for an expression -/
def Run (K : PySem.W.Frag) (g : Gx) (r : R S PV) (l : Lc) (σ : St) (Q : VK) : Prop := match r with
  | .ok v s' => ∀ l' u, Step l l' → Sok K g l' s' σ → RepG K g l' v u → Q u l'.H
  | .exn e s' => ∀ l' cls dd, Step l l' → Sok K g l' s' σ → RepX K g l' e cls dd → g.W cls dd σ l'.H
  | .bad => False
def RunT (K : PySem.W.Frag) (g : Gx) (r : R S Bool) (l : Lc) (σ : St) (Q : Bool → Hp → Prop) : Prop := match r with
  | .ok b s' => ∀ l', Step l l' → Sok K g l' s' σ → Q b l'.H
  | .exn e s' => ∀ l' cls dd, Step l l' → Sok K g l' s' σ → RepX K g l' e cls dd → g.W cls dd σ l'.H
  | .bad => False
def RunA (K : PySem.W.Frag) (g : Gx) (r : R S (List PV)) (l : Lc) (σ : St) (Q : List V → Hp → Prop) : Prop := match r with
  | .ok vs s' => ∀ l' us, Step l l' → Sok K g l' s' σ → RepGL K g l' vs us → Q us l'.H
  | .exn e s' => ∀ l' cls dd, Step l l' → Sok K g l' s' σ → RepX K g l' e cls dd → g.W cls dd σ l'.H
  | .bad => False
def RunS (K : PySem.W.Frag) (g : Gx) (r : R S Fl) (l : Lc) (D : Ends) (σ : St) : Prop := match r with
  | .ok .nx s' => ∀ l' σ', Step l l' → Sok K g l' s' σ' → D.nx σ' l'.H
  | .ok .bk s' => ∀ l' σ', Step l l' → Sok K g l' s' σ' → D.bk σ' l'.H
  | .ok .ct s' => ∀ l' σ', Step l l' → Sok K g l' s' σ' → D.ct σ' l'.H
  | .ok (.rt v) s' => ∀ l' σ' u, Step l l' → Sok K g l' s' σ' → RepG K g l' v u → D.rt u l'.H
  | .exn e s' => ∀ l' σ' cls dd, Step l l' → Sok K g l' s' σ' → RepX K g l' e cls dd → g.W cls dd σ' l'.H
  | .bad => False
def LE (K : PySem.W.Frag) (g : Gx) (d : DE) : TE := fun σ H Q => ∃ l s, l.H = H ∧ Sok K g l s σ ∧ Run K g (d s) l σ Q
def LT (K : PySem.W.Frag) (g : Gx) (d : DT) : TT := fun σ H Q => ∃ l s, l.H = H ∧ Sok K g l s σ ∧ RunT K g (d s) l σ Q
def LA (K : PySem.W.Frag) (g : Gx) (d : DA) : TA := fun σ H Q => ∃ l s, l.H = H ∧ Sok K g l s σ ∧ RunA K g (d s) l σ Q
def LS (K : PySem.W.Frag) (g : Gx) (d : DS) : TS := fun D σ H => ∃ l s, l.H = H ∧ Sok K g l s σ ∧ RunS K g (d s) l D σ
/-- the judgements: code and what it computes -/
abbrev JE (X : Cx) (g : Gx) (e : Expr) (d : DE) : Prop := PE X e (LE X.K g d)
abbrev JT (X : Cx) (g : Gx) (e : Expr) (d : DT) : Prop := PT X e (LT X.K g d)
abbrev JW (X : Cx) (g : Gx) (e : Expr) (d : DT) : Prop := PW X e (LT X.K g d)
abbrev JA (X : Cx) (g : Gx) (es : List Expr) (d : DA) : Prop := PA X es (LA X.K g d)
abbrev JS (X : Cx) (g : Gx) (st : Stmt) (d : DS) : Prop := PS X st (LS X.K g d)
abbrev JSs (X : Cx) (g : Gx) (st : List Stmt) (d : DS) : Prop := PSs X st (LS X.K g d)
section
variable {K : PySem.W.Frag} {g : Gx} {l l1 : Lc} {σ : St} {Q : VK}
theorem Run.step {r : R S PV} (h : Run K g r l σ Q) (st : Step l l1) : Run K g r l1 σ Q := by
  cases r with
  | ok v s' => exact fun l' u a => h l' u (st.trans a)
  | exn e s' => exact fun l' c d a => h l' c d (st.trans a)
  | bad => exact h
theorem RunT.step {r : R S Bool} {Q : Bool → Hp → Prop} (h : RunT K g r l σ Q) (st : Step l l1) : RunT K g r l1 σ Q := by
  cases r with
  | ok v s' => exact fun l' a => h l' (st.trans a)
  | exn e s' => exact fun l' c d a => h l' c d (st.trans a)
  | bad => exact h
theorem RunA.step {r : R S (List PV)} {Q : List V → Hp → Prop} (h : RunA K g r l σ Q) (st : Step l l1) : RunA K g r l1 σ Q := by
  cases r with
  | ok v s' => exact fun l' u a => h l' u (st.trans a)
  | exn e s' => exact fun l' c d a => h l' c d (st.trans a)
  | bad => exact h
theorem RunS.step {r : R S Fl} {D : Ends} (h : RunS K g r l D σ) (st : Step l l1) : RunS K g r l1 D σ := by
  cases r with
  | ok f s' =>
    cases f with
    | nx => exact fun l' u a => h l' u (st.trans a)
    | bk => exact fun l' u a => h l' u (st.trans a)
    | ct => exact fun l' u a => h l' u (st.trans a)
    | rt v => exact fun l' u x a => h l' u x (st.trans a)
  | exn e s' => exact fun l' u c d a => h l' u c d (st.trans a)
  | bad => exact h
theorem Run.mono {r : R S PV} {Q' : VK} (h : Run K g r l σ Q) (i : ∀ u H, Q u H → Q' u H) : Run K g r l σ Q' := by
  cases r with
  | ok v s' => exact fun l' u a b c => i _ _ (h l' u a b c)
  | exn e s' => exact h
  | bad => exact h
theorem RunT.mono {r : R S Bool} {Q Q' : Bool → Hp → Prop} (h : RunT K g r l σ Q) (i : ∀ u H, Q u H → Q' u H) : RunT K g r l σ Q' := by
  cases r with
  | ok v s' => exact fun l' a b => i _ _ (h l' a b)
  | exn e s' => exact h
  | bad => exact h
theorem RunA.mono {r : R S (List PV)} {Q Q' : List V → Hp → Prop} (h : RunA K g r l σ Q) (i : ∀ u H, Q u H → Q' u H) : RunA K g r l σ Q' := by
  cases r with
  | ok v s' => exact fun l' u a b c => i _ _ (h l' u a b c)
  | exn e s' => exact h
  | bad => exact h
/-- an expression, then what follows -/
theorem Run.bind {r : R S PV} {k : PV → S → R S PV} (h : Run K g (r.bind k) l σ Q) : Run K g r l σ (fun u H1 => ∃ l1 s1 v, l1.H = H1 ∧ Sok K g l1 s1 σ ∧ RepG K g l1 v u ∧ Step l l1 ∧ Run K g (k v s1) l1 σ Q) := by
  cases r with
  | ok v s' => exact fun l' u a ok rp => ⟨l', s', v, rfl, ok, rp, a, Run.step (r := k v s') h a⟩
  | exn e s' => exact h
  | bad => exact h
theorem Run.bindT {r : R S PV} {k : PV → S → R S Bool} {Q : Bool → Hp → Prop} (h : RunT K g (r.bind k) l σ Q) : Run K g r l σ (fun u H1 => ∃ l1 s1 v, l1.H = H1 ∧ Sok K g l1 s1 σ ∧ RepG K g l1 v u ∧ Step l l1 ∧ RunT K g (k v s1) l1 σ Q) := by
  cases r with
  | ok v s' => exact fun l' u a ok rp => ⟨l', s', v, rfl, ok, rp, a, RunT.step (r := k v s') h a⟩
  | exn e s' => exact h
  | bad => exact h
theorem Run.bindA {r : R S PV} {k : PV → S → R S (List PV)} {Q : List V → Hp → Prop} (h : RunA K g (r.bind k) l σ Q) : Run K g r l σ (fun u H1 => ∃ l1 s1 v, l1.H = H1 ∧ Sok K g l1 s1 σ ∧ RepG K g l1 v u ∧ Step l l1 ∧ RunA K g (k v s1) l1 σ Q) := by
  cases r with
  | ok v s' => exact fun l' u a ok rp => ⟨l', s', v, rfl, ok, rp, a, RunA.step (r := k v s') h a⟩
  | exn e s' => exact h
  | bad => exact h
theorem Run.bindS {r : R S PV} {k : PV → S → R S Fl} {D : Ends} (h : RunS K g (r.bind k) l D σ) : Run K g r l σ (fun u H1 => ∃ l1 s1 v, l1.H = H1 ∧ Sok K g l1 s1 σ ∧ RepG K g l1 v u ∧ Step l l1 ∧ RunS K g (k v s1) l1 D σ) := by
  cases r with
  | ok v s' => exact fun l' u a ok rp => ⟨l', s', v, rfl, ok, rp, a, RunS.step (r := k v s') h a⟩
  | exn e s' => exact fun l' c d => h l' σ c d
  | bad => exact h
theorem RunT.bind {r : R S Bool} {k : Bool → S → R S PV} (h : Run K g (r.bind k) l σ Q) : RunT K g r l σ (fun b H1 => ∃ l1 s1, l1.H = H1 ∧ Sok K g l1 s1 σ ∧ Step l l1 ∧ Run K g (k b s1) l1 σ Q) := by
  cases r with
  | ok v s' => exact fun l' a ok => ⟨l', s', rfl, ok, a, Run.step (r := k v s') h a⟩
  | exn e s' => exact h
  | bad => exact h
theorem RunT.bindT {r : R S Bool} {k : Bool → S → R S Bool} {Q : Bool → Hp → Prop} (h : RunT K g (r.bind k) l σ Q) : RunT K g r l σ (fun b H1 => ∃ l1 s1, l1.H = H1 ∧ Sok K g l1 s1 σ ∧ Step l l1 ∧ RunT K g (k b s1) l1 σ Q) := by
  cases r with
  | ok v s' => exact fun l' a ok => ⟨l', s', rfl, ok, a, RunT.step (r := k v s') h a⟩
  | exn e s' => exact h
  | bad => exact h
theorem RunT.bindS {r : R S Bool} {k : Bool → S → R S Fl} {D : Ends} (h : RunS K g (r.bind k) l D σ) : RunT K g r l σ (fun b H1 => ∃ l1 s1, l1.H = H1 ∧ Sok K g l1 s1 σ ∧ Step l l1 ∧ RunS K g (k b s1) l1 D σ) := by
  cases r with
  | ok v s' => exact fun l' a ok => ⟨l', s', rfl, ok, a, RunS.step (r := k v s') h a⟩
  | exn e s' => exact fun l' c d => h l' σ c d
  | bad => exact h
theorem RunA.bind {r : R S (List PV)} {k : List PV → S → R S PV} (h : Run K g (r.bind k) l σ Q) : RunA K g r l σ (fun us H1 => ∃ l1 s1 vs, l1.H = H1 ∧ Sok K g l1 s1 σ ∧ RepGL K g l1 vs us ∧ Step l l1 ∧ Run K g (k vs s1) l1 σ Q) := by
  cases r with
  | ok v s' => exact fun l' u a ok rp => ⟨l', s', v, rfl, ok, rp, a, Run.step (r := k v s') h a⟩
  | exn e s' => exact h
  | bad => exact h
theorem RunA.bindA {r : R S (List PV)} {k : List PV → S → R S (List PV)} {Q : List V → Hp → Prop} (h : RunA K g (r.bind k) l σ Q) : RunA K g r l σ (fun us H1 => ∃ l1 s1 vs, l1.H = H1 ∧ Sok K g l1 s1 σ ∧ RepGL K g l1 vs us ∧ Step l l1 ∧ RunA K g (k vs s1) l1 σ Q) := by
  cases r with
  | ok v s' => exact fun l' u a ok rp => ⟨l', s', v, rfl, ok, rp, a, RunA.step (r := k v s') h a⟩
  | exn e s' => exact h
  | bad => exact h
end
section
variable {X : Cx}
/-- what suffices -/
theorem PE.cq {e : Expr} {t t' : TE} (h : PE X e t) (i : ∀ pins s σ H Q, Inv X pins σ H s → t' σ H Q → t σ H Q) : PE X e t' := ⟨fun pins s σ H Q I q => h.run pins s σ H Q I (i pins s σ H Q I q)⟩
theorem PT.cq {e : Expr} {t t' : TT} (h : PT X e t) (i : ∀ σ H Q, t' σ H Q → t σ H Q) : PT X e t' := ⟨fun pins s σ H Q I q => h.run pins s σ H Q I (i σ H Q q)⟩
theorem PW.cq {e : Expr} {t t' : TT} (h : PW X e t) (i : ∀ σ H Q, t' σ H Q → t σ H Q) : PW X e t' := ⟨fun wh pins s σ H Q I q => h.run wh pins s σ H Q I (i σ H Q q)⟩
theorem PA.cq {es : List Expr} {t t' : TA} (h : PA X es t) (i : ∀ σ H Q, t' σ H Q → t σ H Q) : PA X es t' := ⟨fun pos pins s σ H Q I q => h.run pos pins s σ H Q I (i σ H Q q)⟩
theorem PS.cq {st : Stmt} {t t' : TS} (h : PS X st t) (i : ∀ pins s D σ H, Inv X pins σ H s → t' D σ H → t D σ H) : PS X st t' := ⟨fun pins s σ H D I q => h.run pins s σ H D I (i pins s D σ H I q)⟩
theorem PSs.cq {st : List Stmt} {t t' : TS} (h : PSs X st t) (i : ∀ D σ H, t' D σ H → t D σ H) : PSs X st t' := ⟨fun pins s σ H D I q => h.run pins s σ H D I (i D σ H q)⟩
end
section
variable {K : PySem.W.Frag} {g : Gx} {l : Lc} {s : S} {σ : St} {p : Addr} {o : HO}
theorem Step.alloc (hp : l.H p = none) : Step l ⟨l.al, l.M, upd l.H p o⟩ where
  pre := ⟨[], by simp⟩
  new := fun _ h => .inl h
  keep := fun a u _ h => by show upd l.H p o a = some u; rw [upd_ne (ne_of_none h hp)]; exact h
  dom := fun a h => by
    show upd l.H p o a ≠ none
    by_cases e : a = p
    · rw [e, upd_same]; simp
    · rw [upd_ne e]; exact h
/-- all that was known stays where objects are only made -/
theorem Sok.grow {l' : Lc} (ok : Sok K g l s σ) (ea : l'.al = l.al) (eM : l'.M = l.M) (k : ∀ a o, l.H a = some o → l'.H a = some o) : Sok K g l' s σ := by
  have st : Step l l' := ⟨⟨[], by simp [ea]⟩, fun a h => .inl (by rw [← eM]; exact h), fun a o _ h => k a o h, fun a h => by
    cases q : l.H a with
    | none => exact absurd q h
    | some o => rw [k a o q]; simp⟩
  refine ⟨ok.len, fun i v e => ?_, fun i xs e => ?_, ok.dis, by rw [ea]; exact ok.mlen, fun n a m h1 h2 => ?_, by rw [ea]; exact ok.nd, by rw [ea, eM]; exact ok.alM, fun a h => st.dom a (ok.there a (by rw [← eM]; exact h)), by rw [eM]; exact ok.mn, fun x hx => (ok.tabs x hx).to (by rw [eM]; exact (ok.tabs x hx).M) (by rw [ea]; exact (ok.tabs x hx).al) (fun _ q => k _ _ q) fun c q n e => st.repL' c _ n e⟩
  · obtain ⟨u, h1, h2⟩ := ok.env i v e
    exact ⟨u, h1, st.rep h2⟩
  · obtain ⟨a, vs, h1, h2, h3, h4, h5⟩ := ok.own i xs e
    exact ⟨a, vs, h1, by rw [eM]; exact h2, by rw [ea]; exact h3, k _ _ h4, st.reps h5⟩
  · rw [ea] at h1
    have q := ok.mu n a m h1 h2
    cases m with
    | lst xs =>
      obtain ⟨vs, q1, q2⟩ := q
      exact ⟨vs, k _ _ q1, st.reps q2⟩
    | ins C ns xs =>
      obtain ⟨dx, vs, q1, q2, q3⟩ := q
      exact ⟨dx, vs, k _ _ q1, q2, st.reps q3⟩
    | nst C ns xs =>
      obtain ⟨dx, vs, q1, q2, q3⟩ := q
      exact ⟨dx, vs, k _ _ q1, q2, st.reps q3⟩
    | dic ns xs =>
      obtain ⟨vs, q1, q2, q9, q3⟩ := q
      exact ⟨vs, k _ _ q1, q2, q9, st.reps q3⟩
theorem Sok.alloc (ok : Sok K g l s σ) (hp : l.H p = none) : Sok K g ⟨l.al, l.M, upd l.H p o⟩ s σ :=
  ok.grow rfl rfl fun a u h => by show upd l.H p o a = some u; rw [upd_ne (ne_of_none h hp)]; exact h
theorem Sok.fresh (ok : Sok K g l s σ) (hp : l.H p = none) : ¬ g.L l p := fun h => ok.there p h hp
end
end L3
namespace L3
open PySem PySem.Spec PyProof.Rows L2
@[simp] def dC (v : PV) : DE := fun s => .ok v s
@[simp] def dVar (i : Nat) : DE := fun s => match s.env[i]? with
  | some (some (.val v)) => .ok v s
  | _ => .bad
@[simp] def dBin (f : PV → PV → S → R S PV) (da db : DE) : DE := fun s => (da s).bind fun x s1 => (db s1).bind fun y s2 => f x y s2
@[simp] def dUn (f : PV → S → R S PV) (da : DE) : DE := fun s => (da s).bind f
@[simp] def dNil : DA := fun s => .ok [] s
@[simp] def dCons (da : DE) (dr : DA) : DA := fun s => (da s).bind fun x s1 => (dr s1).bind fun xs s2 => .ok (x :: xs) s2
@[simp] def dFn (f : List PV → S → R S PV) (da : DA) : DE := fun s => (da s).bind f
/-- an operation on values at a state -/
def OJ (X : Cx) (g : Gx) (fn : Value → Value → Sem Value) (f : PV → PV → S → R S PV) : Prop :=
  ∀ (pins : List (Addr × Obj)) (s : Shared) (σ : St) (x y : V) (v u : Value) (Q : VK) (l : Lc) (st : S) (p q : PV), Inv X pins σ l.H s → RelV x v → RelV y u → Sok X.K g l st σ → RepG X.K g l p x → RepG X.K g l q y →
    Run X.K g (f p q st) l σ Q → wpAny (model X.prog X.w) X.A (fn v u) (EP X pins σ Q) X.xe s
def UJ (X : Cx) (g : Gx) (fn : Value → Sem Value) (f : PV → S → R S PV) : Prop :=
  ∀ (pins : List (Addr × Obj)) (s : Shared) (σ : St) (x : V) (v : Value) (Q : VK) (l : Lc) (st : S) (p : PV), Inv X pins σ l.H s → RelV x v → Sok X.K g l st σ → RepG X.K g l p x →
    Run X.K g (f p st) l σ Q → wpAny (model X.prog X.w) X.A (fn v) (EP X pins σ Q) X.xe s
def CJ (X : Cx) (g : Gx) (fn : List Value → Sem Value) (f : List PV → S → R S PV) : Prop :=
  ∀ (pins : List (Addr × Obj)) (s : Shared) (σ : St) (xs : List V) (vs : List Value) (Q : VK) (l : Lc) (st : S) (ps : List PV), Inv X pins σ l.H s → Vals xs vs → Sok X.K g l st σ → RepGL X.K g l ps xs →
    Run X.K g (f ps st) l σ Q → wpAny (model X.prog X.w) X.A (fn vs) (EP X pins σ Q) X.xe s
section
variable {X : Cx} {g : Gx} {a b c e : Expr} {es : List Expr} {da db dc de : DE} {dr : DA} {pos : Pos}
theorem OJ.of {fn : Value → Value → Sem Value} {f : PV → PV → S → R S PV} {r : R2} (h : OpR X fn r) (i : ∀ l st σ p q x y Q, Sok X.K g l st σ → RepG X.K g l p x → RepG X.K g l q y → Run X.K g (f p q st) l σ Q → r x y l.H Q) : OJ X g fn f :=
  fun pins s σ x y v u Q l st p q I rx ry ok rp rq q' => h pins s σ l.H x y v u Q I rx ry (i l st σ p q x y Q ok rp rq q')
theorem UJ.of {fn : Value → Sem Value} {f : PV → S → R S PV} {r : V → Hp → VK → Prop} (h : UnR X fn r) (i : ∀ l st σ p x Q, Sok X.K g l st σ → RepG X.K g l p x → Run X.K g (f p st) l σ Q → r x l.H Q) : UJ X g fn f :=
  fun pins s σ x v Q l st p I rx ok rp q' => h pins s σ l.H x v Q I rx (i l st σ p x Q ok rp q')
theorem CJ.of {v : Value} {f : List PV → S → R S PV} {r : List V → Hp → VK → Prop} (h : CallR X v r) (i : ∀ l st σ ps xs Q, Sok X.K g l st σ → RepGL X.K g l ps xs → Run X.K g (f ps st) l σ Q → r xs l.H Q) : CJ X g (fun us => call v us) f :=
  fun pins s σ xs us Q l st ps I rx ok rp q' => h pins s σ l.H xs us Q I rx (i l st σ ps xs Q ok rp q')
theorem jc {v : V} {p : PV} (h : PE X e (tC v)) (r : ∀ l, RepG X.K g l p v) : JE X g e (dC p) := PE.cq h fun pins s σ H Q I q => by
  obtain ⟨l, s, rfl, ok, q⟩ := q
  exact q l v (Step.refl l) ok (r l)
theorem j_int {i j pos} : JE X g (.Constant (.int i) j pos) (dC (.int i)) := jc pe_int fun _ => rfl
theorem j_bl {b j pos} : JE X g (.Constant (.bool b) j pos) (dC (.bl b)) := jc pe_bl fun _ => rfl
theorem j_non {j pos} : JE X g (.Constant .none j pos) (dC .non) := jc pe_non fun _ => rfl
theorem j_str {x j pos} : JE X g (.Constant (.str x) j pos) (dC (.str x)) := jc pe_str fun _ => rfl
theorem jv (i : Nat) {x : Str} (hN : X.N[i]? = some x := by rfl) (hv : Vis X.env.scope x := by first | exact Or.inl rfl | exact Or.inr (Or.inl rfl) | exact Or.inr (Or.inr rfl)) (hd : (x == ("__debug__" : Str)) = false := by decide)
    (hcd : (x == ("__classdict__" : Str)) = false := by decide) : JE X g (.Name x pos) (dVar i) := PE.cq (pe_var hN hv hd hcd) fun pins s σ H Q I q => by
  obtain ⟨l, s, rfl, ok, q⟩ := q
  cases e : s.env[i]? with
  | none => simp only [dVar, e] at q; exact q.elim
  | some o =>
    cases o with
    | none => simp only [dVar, e] at q; exact q.elim
    | some z =>
      cases z with
      | own xs => simp only [dVar, e] at q; exact q.elim
      | val v =>
        simp only [dVar, e] at q
        obtain ⟨u, h1, h2⟩ := ok.env i v e
        exact ⟨u, h1, q l u (Step.refl l) ok h2⟩
theorem j_bin {op : Operator} {f : PV → PV → S → R S PV} (ho : OJ X g (binaryOp op) f) (ha : JE X g a da) (hb : JE X g b db) : JE X g (.BinOp a op b pos) (dBin f da db) := by
  refine ⟨fun pins s σ H Q I h => ?_⟩
  obtain ⟨l, st, rfl, ok, h⟩ := h
  refine wpAny_BinOp (binT (R := fun x y H2 => ∃ l2 st2 p q, l2.H = H2 ∧ Sok X.K g l2 st2 σ ∧ RepG X.K g l2 p x ∧ RepG X.K g l2 q y ∧ Run X.K g (f p q st2) l2 σ Q) ha hb I ?_ fun v u s2 x y H2 I2 rx ry q => ?_)
  · refine ⟨l, st, rfl, ok, Run.mono (Run.bind h) fun u H1 ⟨l1, s1, p, e1, ok1, r1, st1, h1⟩ => ?_⟩
    refine ⟨l1, s1, e1, ok1, Run.mono (Run.bind h1) fun w H2 ⟨l2, s2, q, e2, ok2, r2, st2, h2⟩ => ?_⟩
    exact ⟨l2, s2, p, q, e2, ok2, st2.rep r1, r2, h2⟩
  · obtain ⟨l2, st2, p, q, rfl, ok2, rp, rq, h⟩ := q
    exact ho pins s2 σ x y v u Q l2 st2 p q I2 rx ry ok2 rp rq h
end
end L3
namespace L3
open PySem PySem.Spec PyProof.Rows L2
@[simp] def orB {s a : Type} (x y : R s a) : R s a := match x with
  | .bad => y
  | r => r
section
variable {X : Cx} {g : Gx}
theorem OJ.or {fn : Value → Value → Sem Value} {f f' : PV → PV → S → R S PV} (h : OJ X g fn f) (h' : OJ X g fn f') : OJ X g fn (fun p q s => orB (f p q s) (f' p q s)) :=
  fun pins s σ x y v u Q l st p q I rx ry ok rp rq r => by
    have r : Run X.K g (orB (f p q st) (f' p q st)) l σ Q := r
    cases e : f p q st with
    | bad => rw [e] at r; exact h' pins s σ x y v u Q l st p q I rx ry ok rp rq r
    | ok w t => rw [e] at r; exact h pins s σ x y v u Q l st p q I rx ry ok rp rq (by rw [e]; exact r)
    | exn w t => rw [e] at r; exact h pins s σ x y v u Q l st p q I rx ry ok rp rq (by rw [e]; exact r)
theorem UJ.or {fn : Value → Sem Value} {f f' : PV → S → R S PV} (h : UJ X g fn f) (h' : UJ X g fn f') : UJ X g fn (fun p s => orB (f p s) (f' p s)) :=
  fun pins s σ x v Q l st p I rx ok rp r => by
    have r : Run X.K g (orB (f p st) (f' p st)) l σ Q := r
    cases e : f p st with
    | bad => rw [e] at r; exact h' pins s σ x v Q l st p I rx ok rp r
    | ok w t => rw [e] at r; exact h pins s σ x v Q l st p I rx ok rp (by rw [e]; exact r)
    | exn w t => rw [e] at r; exact h pins s σ x v Q l st p I rx ok rp (by rw [e]; exact r)
theorem CJ.or {fn : List Value → Sem Value} {f f' : List PV → S → R S PV} (h : CJ X g fn f) (h' : CJ X g fn f') : CJ X g fn (fun p s => orB (f p s) (f' p s)) :=
  fun pins s σ x v Q l st p I rx ok rp r => by
    have r : Run X.K g (orB (f p st) (f' p st)) l σ Q := r
    cases e : f p st with
    | bad => rw [e] at r; exact h' pins s σ x v Q l st p I rx ok rp r
    | ok w t => rw [e] at r; exact h pins s σ x v Q l st p I rx ok rp (by rw [e]; exact r)
    | exn w t => rw [e] at r; exact h pins s σ x v Q l st p I rx ok rp (by rw [e]; exact r)
end
@[simp] def fI2 (F : Int → Int → Option PV) : PV → PV → S → R S PV := fun p q s => match p, q with
  | .int i, .int j => (match F i j with | some v => .ok v s | none => .bad)
  | _, _ => .bad
section
variable {X : Cx} {g : Gx}
/-- two ints by a rule of the layer -/
theorem OJ.ints {fn : Value → Value → Sem Value} {r : R2} {F : Int → Int → Option PV} (h : OpR X fn r)
    (i : ∀ (i j : Int) v (H : Hp) (Q : VK), F i j = some v → (∀ u, (∀ l, RepG X.K g l v u) → Q u H) → r (.int i) (.int j) H Q) : OJ X g fn (fI2 F) :=
  OJ.of h fun l st σ p q x y Q ok rp rq run => by
    unfold fI2 at run
    split at run
    · rename_i a b
      cases e : F a b with
      | none => rw [e] at run; exact run.elim
      | some v =>
        rw [e] at run
        have ex : x = .int a := rp
        have ey : y = .int b := rq
        subst ex ey
        exact i a b v l.H Q e fun u hu => run l u (Step.refl l) ok (hu l)
    · exact run.elim
theorem o_addI : OJ X g (binaryOp .Add) (fI2 fun i j => some (.int (i + j))) := OJ.ints op_add fun i j v H Q e q => ⟨i, j, rfl, rfl, q _ fun l => by cases e; rfl⟩
theorem o_subI : OJ X g (binaryOp .Sub) (fI2 fun i j => some (.int (i - j))) := OJ.ints op_sub fun i j v H Q e q => ⟨i, j, rfl, rfl, q _ fun l => by cases e; rfl⟩
/-- bits of an int -/
def ib (i : Int) : Nat := i.natAbs.log2 + 1
@[simp] def FMul (i j : Int) : Option PV := if ib i + ib j ≤ 1000000 then some (.int (i * j)) else none
theorem o_mulI : OJ X g (binaryOp .Mult) (fI2 FMul) := OJ.ints op_mulW fun i j v H Q e q => by
  unfold FMul at e
  split at e
  · cases e
    rename_i h
    exact ⟨i, j, rfl, rfl, by unfold CMulW; unfold ib at h; omega, q _ fun l => rfl⟩
  · cases e
@[simp] def FFdiv (i j : Int) : Option PV := if 0 < j ∧ ib j ≤ 9000 then some (.int (i / j)) else if j < 0 ∧ j.natAbs < 1073741824 then some (.int (i.fdiv j)) else none
theorem o_fdivI : OJ X g (binaryOp .FloorDiv) (fI2 FFdiv) := OJ.ints (OpR.or op_fdivW op_fdivN) fun i j v H Q e q => by
  unfold FFdiv at e
  split at e
  · cases e
    rename_i h
    exact .inl ⟨i, j, rfl, rfl, ⟨h.1, by have := h.2; unfold ib at this; omega⟩, q _ fun l => rfl⟩
  · split at e
    · cases e
      rename_i h
      exact .inr ⟨i, j, rfl, rfl, ⟨by omega, h.2⟩, q _ fun l => rfl⟩
    · cases e
@[simp] def FMod (i j : Int) : Option PV := if j ≠ 0 then some (.int (i.fmod j)) else none
theorem o_modI : OJ X g (binaryOp .Mod) (fI2 FMod) := OJ.ints op_modN fun i j v H Q e q => by
  unfold FMod at e
  split at e
  · cases e
    rename_i h
    exact ⟨i, j, rfl, rfl, h, q _ fun l => rfl⟩
  · cases e
@[simp] def FPow (i j : Int) : Option PV := if 0 ≤ j ∧ j ≤ 1000000 ∧ i.natAbs < 2 ^ 64 then some (.int (i ^ j.toNat)) else none
theorem o_powI : OJ X g (binaryOp .Pow) (fI2 FPow) := OJ.ints op_pow fun i j v H Q e q => by
  unfold FPow at e
  split at e
  · cases e
    rename_i h
    exact ⟨i, j, rfl, rfl, h, q _ fun l => rfl⟩
  · cases e
theorem o_lt : OJ X g (compareOp .Lt) (fI2 fun i j => some (.bl (decide (i < j)))) := OJ.ints op_lt fun i j v H Q e q => ⟨i, j, rfl, rfl, q _ fun l => by cases e; rfl⟩
theorem o_gt : OJ X g (compareOp .Gt) (fI2 fun i j => some (.bl (decide (j < i)))) := OJ.ints op_gt fun i j v H Q e q => ⟨i, j, rfl, rfl, q _ fun l => by cases e; rfl⟩
theorem o_ge : OJ X g (compareOp .GtE) (fI2 fun i j => some (.bl (decide (j ≤ i)))) := OJ.ints op_ge fun i j v H Q e q => ⟨i, j, rfl, rfl, q _ fun l => by cases e; rfl⟩
end
@[simp] def fCat : PV → PV → S → R S PV := fun p q s => match p, q with
  | .lst xs, .lst ys => if xs.length + ys.length ≤ 16777216 then .ok (.lst (xs ++ ys)) s else .bad
  | .str x, .str y => if x.length + y.length ≤ 16777216 then .ok (.str (x ++ y)) s else .bad
  | _, _ => .bad
end L3
namespace L3
open PySem PySem.Spec PyProof.Rows L2
theorem line_eq : (sizeLine : Nat) = 16777216 := sizeLine_eq
section
variable {K : PySem.W.Frag} {g : Gx} {l : Lc} {s : S} {σ : St} {Q : VK} {xs : List PV} {vs : List V}
theorem Run.lst (run : Run K g (.ok (.lst xs) s) l σ Q) (ok : Sok K g l s σ) (r : RepGL K g l xs vs) (p : Addr) (hp : l.H p = none) : Q (.ref p) (upd l.H p (.lst vs)) :=
  run ⟨l.al, l.M, upd l.H p (.lst vs)⟩ _ (Step.alloc hp) (ok.alloc hp) ⟨p, vs, rfl, ok.fresh hp, upd_same, (Step.alloc hp).reps r⟩
theorem Run.tup (run : Run K g (.ok (.tup xs) s) l σ Q) (ok : Sok K g l s σ) (r : RepGL K g l xs vs) (p : Addr) (hp : l.H p = none) : Q (.ref p) (upd l.H p (.tup vs)) :=
  run ⟨l.al, l.M, upd l.H p (.tup vs)⟩ _ (Step.alloc hp) (ok.alloc hp) ⟨p, vs, rfl, .inl ⟨ok.fresh hp, .inl upd_same⟩, (Step.alloc hp).reps r⟩
end
theorem RepL.drop {K : PySem.W.Frag} {CR : Addr} {al : List Addr} {L : Addr → Prop} {H : Hp} : ∀ (n : Nat) {xs : List PV} {vs : List V}, RepL K CR al L H xs vs → RepL K CR al L H (xs.drop n) (vs.drop n)
  | 0, _, _, h => h
  | n + 1, [], vs, h => by have e : vs = [] := h; rw [e]; rfl
  | n + 1, x :: xs, vs, h => by
    obtain ⟨v, r, e, _, h2⟩ := h
    rw [e]
    exact RepL.drop n h2
theorem RepL.take {K : PySem.W.Frag} {CR : Addr} {al : List Addr} {L : Addr → Prop} {H : Hp} : ∀ (n : Nat) {xs : List PV} {vs : List V}, RepL K CR al L H xs vs → RepL K CR al L H (xs.take n) (vs.take n)
  | 0, _, _, h => rfl
  | n + 1, [], vs, h => by have e : vs = [] := h; rw [e]; rfl
  | n + 1, x :: xs, vs, h => by
    obtain ⟨v, r, e, h1, h2⟩ := h
    rw [e]
    exact ⟨v, r.take n, rfl, h1, RepL.take n h2⟩
theorem RepL.eraseIdx {K : PySem.W.Frag} {CR : Addr} {al : List Addr} {L : Addr → Prop} {H : Hp} : ∀ (n : Nat) {xs : List PV} {vs : List V}, RepL K CR al L H xs vs → RepL K CR al L H (xs.eraseIdx n) (vs.eraseIdx n)
  | 0, [], vs, h => by have e : vs = [] := h; rw [e]; rfl
  | 0, x :: xs, vs, h => by obtain ⟨v, r, e, h1, h2⟩ := h; rw [e]; exact h2
  | n + 1, [], vs, h => by have e : vs = [] := h; rw [e]; rfl
  | n + 1, x :: xs, vs, h => by
    obtain ⟨v, r, e, h1, h2⟩ := h
    rw [e]
    exact ⟨v, r.eraseIdx n, rfl, h1, RepL.eraseIdx n h2⟩
theorem RepL.set {K : PySem.W.Frag} {CR : Addr} {al : List Addr} {L : Addr → Prop} {H : Hp} {y : PV} {w : V} (hy : Rep K CR al L H y w) : ∀ (n : Nat) {xs : List PV} {vs : List V}, RepL K CR al L H xs vs → RepL K CR al L H (xs.set n y) (vs.set n w)
  | n, [], vs, h => by have e : vs = [] := h; rw [e]; cases n <;> rfl
  | 0, x :: xs, vs, h => by obtain ⟨v, r, e, h1, h2⟩ := h; rw [e]; exact ⟨w, r, rfl, hy, h2⟩
  | n + 1, x :: xs, vs, h => by
    obtain ⟨v, r, e, h1, h2⟩ := h
    rw [e]
    exact ⟨v, r.set n w, rfl, h1, RepL.set hy n h2⟩
theorem RepL.flat {K : PySem.W.Frag} {CR : Addr} {al : List Addr} {L : Addr → Prop} {H : Hp} {xs : List PV} {vs : List V} (h : RepL K CR al L H xs vs) : ∀ n, RepL K CR al L H (List.replicate n xs).flatten (List.replicate n vs).flatten
  | 0 => rfl
  | n + 1 => by
    rw [List.replicate_succ, List.replicate_succ, List.flatten_cons, List.flatten_cons]
    exact h.append (RepL.flat h n)
/-- xs[lo:hi] -/
def cutP (xs : List PV) (lo hi : Option Int) : List PV := (xs.drop (HT.sIx xs.length 0 lo)).take (HT.sIx xs.length xs.length hi - HT.sIx xs.length 0 lo)
theorem RepL.at {K : PySem.W.Frag} {CR : Addr} {al : List Addr} {L : Addr → Prop} {H : Hp} {xs : List PV} {vs : List V} (h : RepL K CR al L H xs vs) {i : Int} {x : PV} (e : atI xs i = some x) : ∃ v, atI vs i = some v ∧ Rep K CR al L H x v := by
  unfold atI at e ⊢
  rw [← h.length]
  cases q : ixN xs.length i with
  | none => rw [q] at e; cases e
  | some j => rw [q] at e; exact h.get e
mutual
def PV.dat : PV → Option PyData
  | .non => some .none
  | .bl b => some (.bool b)
  | .int i => some (.int i)
  | .str x => some (.str x)
  | .tup xs => (match PV.datL xs with | some ds => some (.tuple ds) | none => none)
  | .lst xs => (match PV.datL xs with | some ds => some (.list ds) | none => none)
  | .frz xs => (match PV.datL xs with | some ds => some (.list ds) | none => none)
  | _ => none
def PV.datL : List PV → Option (List PyData)
  | [] => some []
  | x :: xs => (match x.dat, PV.datL xs with | some d, some ds => some (d :: ds) | _, _ => none)
end
mutual
theorem PV.dat_dp {K : PySem.W.Frag} {CR : Addr} {al : List Addr} {L : Addr → Prop} {H : Hp} : ∀ (x : PV) (d : PyData) (v : V), x.dat = some d → Rep K CR al L H x v → Dp K H v d
  | .non, d, v, e, r => by cases e; have q : v = .non := r; rw [q]; exact .non
  | .bl b, d, v, e, r => by cases e; have q : v = .bl b := r; rw [q]; exact .bl b
  | .int i, d, v, e, r => by cases e; have q : v = .int i := r; rw [q]; exact .int i
  | .str x, d, v, e, r => by cases e; have q : v = .str x := r; rw [q]; exact .str x
  | .tup xs, d, v, e, r => by
    obtain ⟨a, vs, rfl, h, r⟩ := r
    unfold PV.dat at e
    cases q : PV.datL xs with
    | none => rw [q] at e; cases e
    | some ds => rw [q] at e; cases e; exact .tup (SqT.of2 h) (PV.datL_dp xs ds vs q r)
  | .lst xs, d, v, e, r => by
    obtain ⟨a, vs, rfl, _, h, r⟩ := r
    unfold PV.dat at e
    cases q : PV.datL xs with
    | none => rw [q] at e; cases e
    | some ds => rw [q] at e; cases e; exact .lst (SqL.of h) (PV.datL_dp xs ds vs q r)
  | .frz xs, d, v, e, r => by
    obtain ⟨a, vs, rfl, h, r⟩ := r
    unfold PV.dat at e
    cases q : PV.datL xs with
    | none => rw [q] at e; cases e
    | some ds => rw [q] at e; cases e; exact .lst (SqL.of2 h) (PV.datL_dp xs ds vs q r)
  | .rat q, d, v, e, r => nomatch e
  | .obj C ns xs, d, v, e, r => nomatch e
  | .ptr n, d, v, e, r => nomatch e
  | .adr a, d, v, e, r => nomatch e
  | .ty n, d, v, e, r => nomatch e
  | .dk ks xs, d, v, e, r => nomatch e
  | .dt ks xs, d, v, e, r => nomatch e
  | .exc C ns xs, d, v, e, r => nomatch e
theorem PV.datL_dp {K : PySem.W.Frag} {CR : Addr} {al : List Addr} {L : Addr → Prop} {H : Hp} : ∀ (xs : List PV) (ds : List PyData) (vs : List V), PV.datL xs = some ds → RepL K CR al L H xs vs → DpAll K H vs ds
  | [], ds, vs, e, r => by cases e; have q : vs = [] := r; rw [q]; exact .nil
  | x :: xs, ds, vs, e, r => by
    obtain ⟨v, w, rfl, h1, h2⟩ := r
    unfold PV.datL at e
    cases q1 : x.dat with
    | none => rw [q1] at e; cases e
    | some d =>
      cases q2 : PV.datL xs with
      | none => rw [q1, q2] at e; cases e
      | some ds' => rw [q1, q2] at e; cases e; exact .cons (PV.dat_dp x d v q1 h1) (PV.datL_dp xs ds' w q2 h2)
end
def fEqD (neg : Bool) : PV → PV → S → R S PV := fun p q s => match p.dat, q.dat with
  | some d, some e => if SeqAt.shaped d = true ∧ SeqAt.shaped e = true then .ok (.bl (xor neg (PyData.eqv d e))) s else .bad
  | _, _ => .bad
section
variable {X : Cx} {g : Gx}
theorem o_eqD (hu : X.A.units + 64 < cLine) : OJ X g (compareOp .Eq) (fEqD false) := OJ.of (op_eqD hu) fun l st σ p q x y Q ok rp rq run => by
  unfold fEqD at run
  split at run
  · rename_i d e h1 h2
    split at run
    · rename_i h3
      refine ⟨d, e, p.dat_dp d x h1 rp, q.dat_dp e y h2 rq, h3.1, h3.2, ?_⟩
      have z := run l (.bl (xor false (PyData.eqv d e))) (Step.refl l) ok rfl
      rwa [Bool.false_xor] at z
    · exact run.elim
  · exact run.elim
theorem o_neD (hu : X.A.units + 64 < cLine) : OJ X g (compareOp .NotEq) (fEqD true) := OJ.of (op_neD hu) fun l st σ p q x y Q ok rp rq run => by
  unfold fEqD at run
  split at run
  · rename_i d e h1 h2
    split at run
    · rename_i h3
      refine ⟨d, e, p.dat_dp d x h1 rp, q.dat_dp e y h2 rq, h3.1, h3.2, ?_⟩
      have z := run l (.bl (xor true (PyData.eqv d e))) (Step.refl l) ok rfl
      rwa [Bool.true_xor] at z
    · exact run.elim
  · exact run.elim
@[simp] def PV.isNon : PV → Bool
  | .non => true
  | _ => false
@[simp] def fIsN (neg : Bool) : PV → PV → S → R S PV := fun p q s => match q with
  | .non => .ok (.bl (xor neg p.isNon)) s
  | _ => .bad
theorem rep_non {K : PySem.W.Frag} {CR : Addr} {al : List Addr} {L : Addr → Prop} {H : Hp} {p : PV} {x : V} (r : Rep K CR al L H p x) : decide (x = .non) = p.isNon := by
  cases p with
  | non => have e : x = .non := r; rw [e]; rfl
  | bl b => have e : x = .bl b := r; rw [e]; rfl
  | int b => have e : x = .int b := r; rw [e]; rfl
  | str b => have e : x = .str b := r; rw [e]; rfl
  | rat q => obtain ⟨a, dx, e, _⟩ := r; rw [e]; rfl
  | tup q => obtain ⟨a, dx, e, _⟩ := r; rw [e]; rfl
  | lst q => obtain ⟨a, dx, e, _⟩ := r; rw [e]; rfl
  | frz q => obtain ⟨a, dx, e, _⟩ := r; rw [e]; rfl
  | obj C ns q => obtain ⟨a, dx, vs, e, _⟩ := r; rw [e]; rfl
  | ptr n => obtain ⟨a, _, e⟩ := r; rw [e]; rfl
  | adr n => have e : x = .ref n := r; rw [e]; rfl
  | ty n => have e : x = .ty n := r; rw [e]; rfl
  | dk ks q => obtain ⟨a, vs, e, _⟩ := r; rw [e]; rfl
  | dt ks q => obtain ⟨a, vs, e, _⟩ := r; rw [e]; rfl
  | exc C ns q => obtain ⟨a, d, vs, e, _⟩ := r; rw [e]; rfl
  | clo t q => have e : x = .ref t.f := r.1; rw [e]; rfl
theorem o_isN : OJ X g (compareOp .Is) (fIsN false) := OJ.of op_isN fun l st σ p q x y Q ok rp rq run => by
  cases q with
  | non => exact ⟨rq, run l _ (Step.refl l) ok (by rw [Bool.false_xor, rep_non rp]; rfl)⟩
  | _ => exact run.elim
theorem o_notN : OJ X g (compareOp .IsNot) (fIsN true) := OJ.of op_notN fun l st σ p q x y Q ok rp rq run => by
  cases q with
  | non => exact ⟨rq, run l _ (Step.refl l) ok (by rw [Bool.true_xor, rep_non rp]; rfl)⟩
  | _ => exact run.elim
theorem o_catL : OJ X g (binaryOp .Add) (fun p q s => match p, q with | .lst xs, .lst ys => if xs.length + ys.length ≤ 16777216 then .ok (.lst (xs ++ ys)) s else .bad | _, _ => .bad) :=
  OJ.of op_cat fun l st σ p q x y Q ok rp rq run => by
    split at run
    · split at run
      · rename_i h
        obtain ⟨a, vs, rfl, _, ha, ra⟩ := rp
        obtain ⟨b, ws, rfl, _, hb, rb⟩ := rq
        exact ⟨a, b, vs, ws, rfl, rfl, ha, hb, by rw [line_eq, ← ra.length, ← rb.length]; exact h, Run.lst run ok (ra.append rb)⟩
      · exact run.elim
    · exact run.elim
theorem o_catT : OJ X g (binaryOp .Add) (fun p q s => match p, q with | .tup xs, .tup ys => if xs.length + ys.length ≤ 16777216 then .ok (.tup (xs ++ ys)) s else .bad | _, _ => .bad) :=
  OJ.of op_catA fun l st σ p q x y Q ok rp rq run => by
    split at run
    · split at run
      · rename_i xs ys h
        obtain ⟨a, vs, rfl, ha, ra⟩ := rp
        obtain ⟨b, ws, rfl, hb, rb⟩ := rq
        refine ⟨a, b, vs, ws, rfl, rfl, SqT.of2 ha, SqT.of2 hb, by rw [line_eq, ← ra.length, ← rb.length]; exact h, fun e => ?_, fun _ e => ?_, fun _ _ => Run.tup run ok (ra.append rb)⟩
        · subst e
          have e2 : xs = [] := List.eq_nil_of_length_eq_zero ra.length
          subst e2
          exact run l _ (Step.refl l) ok ⟨b, ws, rfl, hb, rb⟩
        · subst e
          have e2 : ys = [] := List.eq_nil_of_length_eq_zero rb.length
          subst e2
          rw [List.append_nil] at run
          exact run l _ (Step.refl l) ok ⟨a, vs, rfl, ha, ra⟩
      · exact run.elim
    · exact run.elim
theorem o_catS : OJ X g (binaryOp .Add) (fun p q s => match p, q with | .str x, .str y => if x.length + y.length ≤ 16777216 then .ok (.str (x ++ y)) s else .bad | _, _ => .bad) :=
  OJ.of op_add_str fun l st σ p q x y Q ok rp rq run => by
    split at run
    · split at run
      · rename_i a b h
        exact ⟨a, b, rp, rq, by rw [line_eq]; exact h, run l _ (Step.refl l) ok rfl⟩
      · exact run.elim
    · exact run.elim
theorem o_repL : OJ X g (binaryOp .Mult) (fun p q s => match p, q with | .lst xs, .int k => if -(2 ^ 63) ≤ k ∧ k < 2 ^ 63 ∧ xs.length * k.toNat ≤ 16777216 then .ok (.lst (List.replicate k.toNat xs).flatten) s else .bad | _, _ => .bad) :=
  OJ.of op_rep fun l st σ p q x y Q ok rp rq run => by
    split at run
    · split at run
      · rename_i xs k h
        obtain ⟨a, vs, rfl, _, ha, ra⟩ := rp
        exact ⟨a, k, vs, rfl, rq, ha, h.1, h.2.1, by rw [line_eq, ← ra.length]; exact h.2.2, Run.lst run ok (ra.flat _)⟩
      · exact run.elim
    · exact run.elim
end
end L3
namespace L3
open PySem PySem.Spec PyProof.Rows L2
@[simp] def truP : PV → Option Bool
  | .non => some false
  | .bl b => some b
  | .int i => some (i != 0)
  | .str x => if x.length ≤ 16777216 then some ((x.length : Int) != 0) else none
  | .tup xs => some (!xs.isEmpty)
  | .lst xs => some (!xs.isEmpty)
  | .frz xs => some (!xs.isEmpty)
  | _ => none
@[simp] def dTru (d : DE) : DT := fun s => (d s).bind fun v s1 => match truP v with
  | some b => .ok b s1
  | none => .bad
@[simp] def dAndT (a b : DT) : DT := fun s => (a s).bind fun x s1 => match x with
  | true => b s1
  | false => .ok false s1
@[simp] def dOrT (a b : DT) : DT := fun s => (a s).bind fun x s1 => match x with
  | true => .ok true s1
  | false => b s1
@[simp] def dNotT (a : DT) : DT := fun s => (a s).bind fun x s1 => .ok (!x) s1
@[simp] def dAnd (a b : DE) : DE := fun s => (a s).bind fun x s1 => match x with
  | .bl true => b s1
  | .bl false => .ok (.bl false) s1
  | _ => .bad
@[simp] def dOr (a b : DE) : DE := fun s => (a s).bind fun x s1 => match x with
  | .bl true => .ok (.bl true) s1
  | .bl false => b s1
  | _ => .bad
@[simp] def dNot (a : DE) : DE := fun s => (a s).bind fun x s1 => match x with
  | .bl b => .ok (.bl (!b)) s1
  | _ => .bad
@[simp] def dIf (c : DT) (a b : DE) : DE := fun s => (c s).bind fun x s1 => match x with
  | true => a s1
  | false => b s1
@[simp] def dChain (f f' : PV → PV → S → R S PV) (da db dc : DE) : DE := fun s => (da s).bind fun x s1 => (db s1).bind fun y s2 => (f x y s2).bind fun z s3 => match z with
  | .bl true => (dc s3).bind fun w s4 => f' y w s4
  | .bl false => .ok (.bl false) s3
  | _ => .bad
theorem isEmpty_len {a b : Type} {xs : List a} {ys : List b} (h : xs.length = ys.length) : xs.isEmpty = ys.isEmpty := by
  cases xs <;> cases ys <;> first | rfl | cases h
section
variable {X : Cx} {g : Gx} {a b c e : Expr} {es : List Expr} {da db dc de : DE} {ta tb tc : DT} {dr : DA} {pos : Pos}
theorem j_cmp {op : CmpOp} {f : PV → PV → S → R S PV} (ho : OJ X g (compareOp op) f) (ha : JE X g a da) (hb : JE X g b db) (hm : behindInMarks op b = false := by first | exact nobehind _ (by decide) (by decide) | rfl | with_unfolding_all rfl) : JE X g (.Compare a [op] [b] pos) (dBin f da db) := by
  refine ⟨fun pins s σ H Q I h => ?_⟩
  obtain ⟨l, st, rfl, ok, h⟩ := h
  refine wpAny_Compare1 (binT (R := fun x y H2 => ∃ l2 st2 p q, l2.H = H2 ∧ Sok X.K g l2 st2 σ ∧ RepG X.K g l2 p x ∧ RepG X.K g l2 q y ∧ Run X.K g (f p q st2) l2 σ Q) ha hb I ?_ fun v u s2 x y H2 I2 rx ry q => ?_) hm
  · refine ⟨l, st, rfl, ok, Run.mono (Run.bind h) fun u H1 ⟨l1, s1, p, e1, ok1, r1, st1, h1⟩ => ?_⟩
    refine ⟨l1, s1, e1, ok1, Run.mono (Run.bind h1) fun w H2 ⟨l2, s2, q, e2, ok2, r2, st2, h2⟩ => ?_⟩
    exact ⟨l2, s2, p, q, e2, ok2, st2.rep r1, r2, h2⟩
  · obtain ⟨l2, st2, p, q, rfl, ok2, rp, rq, h⟩ := q
    exact ho pins s2 σ x y v u Q l2 st2 p q I2 rx ry ok2 rp rq h
/-- a value's truth, from its representation -/
theorem rep_tru {K : PySem.W.Frag} {l : Lc} {p : PV} {x : V} {k : Bool} (r : RepG K g l p x) (h : truP p = some k) : TruV K x l.H k := by
  cases p with
  | non => have e : x = .non := r; subst e; cases h; rfl
  | bl b => have e : x = .bl b := r; subst e; cases h; rfl
  | int i => have e : x = .int i := r; subst e; cases h; rfl
  | str z =>
    have e : x = .str z := r; subst e
    simp only [truP] at h
    split at h
    · cases h
      rename_i q
      exact ⟨by rw [line_eq]; exact q, rfl⟩
    · cases h
  | tup xs =>
    obtain ⟨a, vs, rfl, ha, ra⟩ := r
    cases h
    exact .inr (.inl ⟨vs, SqT.of2 ha, by rw [isEmpty_len ra.length]⟩)
  | lst xs =>
    obtain ⟨a, vs, rfl, _, ha, ra⟩ := r
    cases h
    exact .inl ⟨vs, SqL.of ha, by rw [isEmpty_len ra.length]⟩
  | frz xs =>
    obtain ⟨a, vs, rfl, ha, ra⟩ := r
    cases h
    exact .inl ⟨vs, SqL.of2 ha, by rw [isEmpty_len ra.length]⟩
  | _ => cases h
/-- any expression whose test is its value's truth -/
theorem jt (ha : JE X g a da) (he : ∀ whole, isTrue a X.env whole = (do let v ← whole; standAt a.pos; holding [v] (truthy v)) := by intro _; rfl) : JT X g a (dTru da) :=
  PT.cq (pt_truth ha he) fun σ H Q q => by
    obtain ⟨l, s, rfl, ok, q⟩ := q
    refine ⟨l, s, rfl, ok, Run.mono (Run.bindT q) fun u H1 ⟨l1, s1, p, e1, ok1, r1, st1, h1⟩ => ?_⟩
    subst e1
    cases e : truP p with
    | none => rw [e] at h1; exact h1.elim
    | some k => rw [e] at h1; exact ⟨k, rep_tru r1 e, h1 l1 (Step.refl l1) ok1⟩
/-- a comparison as a test -/
theorem jt_cmp {op : CmpOp} {f : PV → PV → S → R S PV} (ho : OJ X g (compareOp op) f) (ha : JE X g a da) (hb : JE X g b db) (hm : behindInMarks op b = false := by first | exact nobehind _ (by decide) (by decide) | rfl | with_unfolding_all rfl) : JT X g (.Compare a [op] [b] pos) (dTru (dBin f da db)) := by
  refine ⟨fun pins s σ H Q I h => ?_⟩
  obtain ⟨l, st, rfl, ok, h⟩ := h
  refine wpAny_isTrue_Compare1 (binT (R := fun x y H2 => ∃ l2 st2 p q, l2.H = H2 ∧ Sok X.K g l2 st2 σ ∧ RepG X.K g l2 p x ∧ RepG X.K g l2 q y ∧ RunT X.K g ((f p q st2).bind fun v s1 => match truP v with | some b => .ok b s1 | none => .bad) l2 σ Q) ha hb I ?_ fun v u s2 x y H2 I2 rx ry q => ?_) hm
  · have h' : RunT X.K g ((da st).bind fun x s1 => (db s1).bind fun y s2 => (f x y s2).bind fun v s1 => match truP v with | some b => .ok b s1 | none => .bad) l σ Q := by
      have e : dTru (dBin f da db) st = ((da st).bind fun x s1 => (db s1).bind fun y s2 => (f x y s2).bind fun v s1 => match truP v with | some b => .ok b s1 | none => .bad) := by
        simp only [dTru, dBin]
        cases da st <;> try rfl
        rename_i v t
        show ((db t).bind _).bind _ = (db t).bind _
        cases db t <;> rfl
      rw [e] at h
      exact h
    refine ⟨l, st, rfl, ok, Run.mono (Run.bindT h') fun u H1 ⟨l1, s1, p, e1, ok1, r1, st1, h1⟩ => ?_⟩
    refine ⟨l1, s1, e1, ok1, Run.mono (Run.bindT h1) fun w H2 ⟨l2, s2, q, e2, ok2, r2, st2, h2⟩ => ?_⟩
    exact ⟨l2, s2, p, q, e2, ok2, st2.rep r1, r2, h2⟩
  · obtain ⟨l2, st2, p, q, rfl, ok2, rp, rq, h⟩ := q
    refine thn (ho pins s2 σ x y v u _ l2 st2 p q I2 rx ry ok2 rp rq (Run.bindT h)) fun w s3 ⟨z, H3, I3, r3, l3, s3', pz, e3, ok3, r3', st3, h3⟩ => ?_
    subst e3
    cases e : truP pz with
    | none => rw [e] at h3; exact h3.elim
    | some k =>
      rw [e] at h3
      exact tru_ok pins s3 σ l3.H z w Q I3 r3 ⟨k, rep_tru r3' e, h3 l3 (Step.refl l3) ok3⟩
theorem jt_not (ha : JT X g a ta) : JT X g (.UnaryOp .Not a pos) (dNotT ta) := PT.cq (pt_not ha) fun σ H Q q => by
  obtain ⟨l, s, rfl, ok, q⟩ := q
  refine ⟨l, s, rfl, ok, RunT.mono (RunT.bindT q) fun u H1 ⟨l1, s1, e1, ok1, st1, h1⟩ => ?_⟩
  subst e1
  exact h1 l1 (Step.refl l1) ok1
theorem jw_and1 (ha : JT X g a ta) : JW X g (.BoolOp .And [a] pos) ta := pw_and1 ha
theorem jw_or1 (ha : JT X g a ta) : JW X g (.BoolOp .Or [a] pos) ta := pw_or1 ha
theorem jw_and {rest : List Expr} (ha : JT X g a ta) (hb : JW X g (.BoolOp .And (b :: rest) pos) tb) : JW X g (.BoolOp .And (a :: b :: rest) pos) (dAndT ta tb) := PW.cq (pw_and ha hb) fun σ H Q q => by
  obtain ⟨l, s, rfl, ok, q⟩ := q
  refine ⟨l, s, rfl, ok, RunT.mono (RunT.bindT q) fun u H1 ⟨l1, s1, e1, ok1, st1, h1⟩ => ?_⟩
  subst e1
  cases u with
  | true => exact ⟨l1, s1, rfl, ok1, h1⟩
  | false => exact h1 l1 (Step.refl l1) ok1
theorem jw_or {rest : List Expr} (ha : JT X g a ta) (hb : JW X g (.BoolOp .Or (b :: rest) pos) tb) : JW X g (.BoolOp .Or (a :: b :: rest) pos) (dOrT ta tb) := PW.cq (pw_or ha hb) fun σ H Q q => by
  obtain ⟨l, s, rfl, ok, q⟩ := q
  refine ⟨l, s, rfl, ok, RunT.mono (RunT.bindT q) fun u H1 ⟨l1, s1, e1, ok1, st1, h1⟩ => ?_⟩
  subst e1
  cases u with
  | false => exact ⟨l1, s1, rfl, ok1, h1⟩
  | true => exact h1 l1 (Step.refl l1) ok1
theorem jt_w {t : DT} (h : JW X g e t) : JT X g e t := h.pt
theorem j_one {op} (h : JE X g a da) : JE X g (.BoolOp op [a] pos) da := pe_one h
theorem j_and {rest : List Expr} (ha : JE X g a da) (hb : JE X g (.BoolOp .And (b :: rest) pos) db) : JE X g (.BoolOp .And (a :: b :: rest) pos) (dAnd da db) := PE.cq (pe_and ha hb) fun pins s σ H Q I q => by
  obtain ⟨l, s, rfl, ok, q⟩ := q
  refine ⟨l, s, rfl, ok, Run.mono (Run.bind q) fun u H1 ⟨l1, s1, p, e1, ok1, r1, st1, h1⟩ => ?_⟩
  subst e1
  cases p with
  | bl k =>
    cases (show u = .bl k from r1)
    refine ⟨k, rfl, ?_⟩
    cases k with
    | true => exact ⟨l1, s1, rfl, ok1, h1⟩
    | false => exact h1 l1 _ (Step.refl l1) ok1 rfl
  | _ => exact h1.elim
theorem j_or {rest : List Expr} (ha : JE X g a da) (hb : JE X g (.BoolOp .Or (b :: rest) pos) db) : JE X g (.BoolOp .Or (a :: b :: rest) pos) (dOr da db) := PE.cq (pe_or ha hb) fun pins s σ H Q I q => by
  obtain ⟨l, s, rfl, ok, q⟩ := q
  refine ⟨l, s, rfl, ok, Run.mono (Run.bind q) fun u H1 ⟨l1, s1, p, e1, ok1, r1, st1, h1⟩ => ?_⟩
  subst e1
  cases p with
  | bl k =>
    cases (show u = .bl k from r1)
    refine ⟨k, rfl, ?_⟩
    cases k with
    | false => exact ⟨l1, s1, rfl, ok1, h1⟩
    | true => exact h1 l1 _ (Step.refl l1) ok1 rfl
  | _ => exact h1.elim
theorem j_not (ha : JE X g a da) : JE X g (.UnaryOp .Not a pos) (dNot da) := PE.cq (pe_not ha) fun pins s σ H Q I q => by
  obtain ⟨l, s, rfl, ok, q⟩ := q
  refine ⟨l, s, rfl, ok, Run.mono (Run.bind q) fun u H1 ⟨l1, s1, p, e1, ok1, r1, st1, h1⟩ => ?_⟩
  subst e1
  cases p with
  | bl k =>
    cases (show u = .bl k from r1)
    exact ⟨k, rfl, h1 l1 _ (Step.refl l1) ok1 rfl⟩
  | _ => exact h1.elim
theorem j_if (hc : JT X g c tc) (ha : JE X g a da) (hb : JE X g b db) : JE X g (.IfExp c a b pos) (dIf tc da db) := PE.cq (pe_ifExp hc ha hb) fun pins s σ H Q I q => by
  obtain ⟨l, s, rfl, ok, q⟩ := q
  refine ⟨l, s, rfl, ok, RunT.mono (RunT.bind q) fun u H1 ⟨l1, s1, e1, ok1, st1, h1⟩ => ?_⟩
  subst e1
  cases u with
  | true => exact ⟨l1, s1, rfl, ok1, h1⟩
  | false => exact ⟨l1, s1, rfl, ok1, h1⟩
end
end L3
namespace L3
open PySem PySem.Spec PyProof.Rows L2
@[simp] def dTup (d : DA) : DE := fun s => (d s).bind fun xs s1 => if xs.length ≤ 1000 then .ok (.tup xs) s1 else .bad
@[simp] def dLst (d : DA) : DE := fun s => (d s).bind fun xs s1 => if xs.length ≤ 1000 then .ok (.lst xs) s1 else .bad
/-- a display that becomes a shared list -/
@[simp] def dNew (d : DA) : DE := fun s => (d s).bind fun xs s1 => if xs.length ≤ 1000 then .ok (.ptr s1.mu.length) ⟨s1.env, s1.mu ++ [.lst xs]⟩ else .bad
@[simp] def optR {s a : Type} (o : Option a) (t : s) : R s a := match o with
  | some v => .ok v t
  | none => .bad
/-- what a value is as a list -/
@[simp] def asL (mu : List MO) : PV → Option (List PV)
  | .lst xs => some xs
  | .tup xs => some xs
  | .frz xs => some xs
  | .ptr n => (match mu[n]? with
    | some (.lst xs) => some xs
    | _ => none)
  | _ => none
@[simp] def fIx : PV → PV → S → R S PV := fun p q s => match q with
  | .int i => (match asL s.mu p with
    | some xs => optR (atI xs i) s
    | none => .bad)
  | _ => .bad
abbrev DO := S → R S (Option Int)
@[simp] def dNone : DO := fun s => .ok none s
@[simp] def dSome (d : DE) : DO := fun s => (d s).bind fun v s1 => match v with
  | .int i => .ok (some i) s1
  | _ => .bad
@[simp] def fCut (v : PV) (a b : Option Int) (s : S) : R S PV := match v with
  | .lst xs => .ok (.lst (cutP xs a b)) s
  | .tup xs => .ok (.tup (cutP xs a b)) s
  | _ => .bad
@[simp] def dSlice (d : DE) (lo hi : DO) : DE := fun s => (d s).bind fun v s1 => (lo s1).bind fun a s2 => (hi s2).bind fun b s3 => fCut v a b s3
@[simp] def fLen : List PV → S → R S PV := fun ps s => match ps with
  | [.str x] => if x.length ≤ 16777216 then .ok (.int x.length) s else .bad
  | [p] => (match asL s.mu p with
    | some xs => .ok (.int xs.length) s
    | none => .bad)
  | _ => .bad
@[simp] def fList : List PV → S → R S PV := fun ps s => match ps with
  | [p] => (match asL s.mu p with
    | some xs => .ok (.lst xs) s
    | none => .bad)
  | _ => .bad
@[simp] def fTuple : List PV → S → R S PV := fun ps s => match ps with
  | [p] => (match asL s.mu p with
    | some xs => .ok (.tup xs) s
    | none => .bad)
  | _ => .bad
@[simp] def fAbsI : List PV → S → R S PV := fun ps s => match ps with
  | [.int i] => .ok (.int i.natAbs) s
  | _ => .bad
@[simp] def fMax2 : List PV → S → R S PV := fun ps s => match ps with
  | [.int i, .int j] => .ok (.int (max i j)) s
  | _ => .bad
@[simp] def fMin2 : List PV → S → R S PV := fun ps s => match ps with
  | [.int i, .int j] => .ok (.int (min i j)) s
  | _ => .bad
@[simp] def fIntB : List PV → S → R S PV := fun ps s => match ps with
  | [.int i] => .ok (.int i) s
  | [.bl b] => .ok (.int (if b then 1 else 0)) s
  | _ => .bad
@[simp] def fBool : List PV → S → R S PV := fun ps s => match ps with
  | [.int i] => .ok (.bl (i != 0)) s
  | [.bl b] => .ok (.bl b) s
  | _ => .bad
section
variable {X : Cx} {g : Gx} {a b c e : Expr} {es : List Expr} {da db dc de : DE} {dr : DA} {pos : Pos}
theorem ja_nil : JA X g [] dNil := PA.cq pa_nil fun σ H Q q => by
  obtain ⟨l, s, rfl, ok, q⟩ := q
  exact q l [] (Step.refl l) ok rfl
theorem ja_cons (ha : JE X g e de) (hr : JA X g es dr) (hs : starEach (e :: es) X.env = (false, eval e X.env) :: starEach es X.env := by rfl) : JA X g (e :: es) (dCons de dr) := PA.cq (pa_cons ha hr hs) fun σ H Q q => by
  obtain ⟨l, s, rfl, ok, q⟩ := q
  refine ⟨l, s, rfl, ok, Run.mono (Run.bindA q) fun u H1 ⟨l1, s1, p, e1, ok1, r1, st1, h1⟩ => ?_⟩
  refine ⟨l1, s1, e1, ok1, RunA.mono (RunA.bindA h1) fun us H2 ⟨l2, s2, ps, e2, ok2, r2, st2, h2⟩ => ?_⟩
  subst e2
  exact h2 l2 (u :: us) (Step.refl l2) ok2 ⟨u, us, rfl, st2.rep r1, r2⟩
theorem j_tup {x1} (h : JA X g es dr) : JE X g (.Tuple es x1 pos) (dTup dr) := PE.cq (pe_tup h) fun pins s σ H Q I q => by
  obtain ⟨l, s, rfl, ok, q⟩ := q
  refine ⟨l, s, rfl, ok, RunA.mono (RunA.bind q) fun u H1 ⟨l1, s1, p, e1, ok1, r1, st1, h1⟩ => ?_⟩
  subst e1
  split at h1
  · rename_i z
    exact ⟨by rw [line_eq, ← r1.length]; omega, Run.tup h1 ok1 r1⟩
  · exact h1.elim
theorem j_lst (h : JA X g es dr) : JE X g (.List es pos) (dLst dr) := PE.cq (pe_lst h) fun pins s σ H Q I q => by
  obtain ⟨l, s, rfl, ok, q⟩ := q
  refine ⟨l, s, rfl, ok, RunA.mono (RunA.bind q) fun u H1 ⟨l1, s1, p, e1, ok1, r1, st1, h1⟩ => ?_⟩
  subst e1
  split at h1
  · rename_i z
    exact ⟨by rw [line_eq, ← r1.length]; omega, Run.lst h1 ok1 r1⟩
  · exact h1.elim
theorem j_callB {x : Str} {id : String} {f : List PV → S → R S PV} {p : Pos} (hc : CJ X g (fun us => call (.builtin id) us) f) (hg : Gl X x) (hm : X.mg x = none) (hv : bootBuiltins x = some (.builtin id)) (ha : JA X g (e :: es) dr) (hn : x ≠ "__name__" := by decide) (hdb : (x == ("__debug__" : Str)) = false := by decide)
    (he : starEach (e :: es) X.env = (false, eval e X.env) :: starEach es X.env := by rfl) (hpl : (backTo pos (starEach es X.env)).any (·.1) = false := by rfl) : JE X g (.Call (.Name x p) (e :: es) [] pos) (dFn f dr) := by
  refine ⟨fun pins s σ H Q I h => ?_⟩
  obtain ⟨l, st, rfl, ok, h⟩ := h
  refine wpAny_Call_Name_kw (ld_blt I hg hm hv ?_ hn hdb)
  refine PyProof.Rows.callWith_builtin1 (thn (ha.run pos pins s σ _ _ I ⟨l, st, rfl, ok, RunA.bind h⟩) fun us s1 ⟨vs, H1, I1, r1, l1, s1', ps, e1, ok1, rp, st1, h1⟩ => ?_) he hpl
  subst e1
  exact hc pins s1 σ vs us Q l1 s1' ps I1 r1 ok1 rp h1
theorem j_callTy {x : Str} {T : String} {f : List PV → S → R S PV} {p : Pos} (hc : CJ X g (fun us => call (.type T) us) f) (hg : Gl X x) (hm : X.mg x = none) (hv : bootBuiltins x = some (.type T)) (ha : JA X g (e :: es) dr) (hn : x ≠ "__name__" := by decide) (hdb : (x == ("__debug__" : Str)) = false := by decide)
    (he : starEach (e :: es) X.env = (false, eval e X.env) :: starEach es X.env := by rfl) (hpl : (backTo pos (starEach es X.env)).any (·.1) = false := by rfl) : JE X g (.Call (.Name x p) (e :: es) [] pos) (dFn f dr) := by
  refine ⟨fun pins s σ H Q I h => ?_⟩
  obtain ⟨l, st, rfl, ok, h⟩ := h
  refine wpAny_Call_Name_kw (ld_blt I hg hm hv ?_ hn hdb)
  refine PyProof.Rows.callWith_type1 (thn (ha.run pos pins s σ _ _ I ⟨l, st, rfl, ok, RunA.bind h⟩) fun us s1 ⟨vs, H1, I1, r1, l1, s1', ps, e1, ok1, rp, st1, h1⟩ => ?_) he hpl
  subst e1
  exact hc pins s1 σ vs us Q l1 s1' ps I1 r1 ok1 rp h1
/-- a value seen as a list: where it stands -/
theorem rep_asL {K : PySem.W.Frag} {l : Lc} {s : S} {σ : St} {p : PV} {x : V} {xs : List PV} (ok : Sok K g l s σ) (r : RepG K g l p x) (h : asL s.mu p = some xs) :
    ∃ a vs, x = .ref a ∧ (SqL K l.H a vs ∨ SqT K l.H a vs) ∧ RepGL K g l xs vs := by
  cases p with
  | lst ys => obtain ⟨a, vs, rfl, _, ha, ra⟩ := r; cases h; exact ⟨a, vs, rfl, .inl (SqL.of ha), ra⟩
  | tup ys => obtain ⟨a, vs, rfl, ha, ra⟩ := r; cases h; exact ⟨a, vs, rfl, .inr (SqT.of2 ha), ra⟩
  | frz ys => obtain ⟨a, vs, rfl, ha, ra⟩ := r; cases h; exact ⟨a, vs, rfl, .inl (SqL.of2 ha), ra⟩
  | ptr n =>
    obtain ⟨a, ha, rfl⟩ := r
    simp only [asL] at h
    cases e : s.mu[n]? with
    | none => rw [e] at h; cases h
    | some m =>
      rw [e] at h
      cases m with
      | lst ys =>
        cases h
        obtain ⟨vs, h1, h2⟩ := ok.mu n a _ ha e
        exact ⟨a, vs, rfl, .inl (SqL.of h1), h2⟩
      | ins C ns ys => cases h
      | nst C ns ys => cases h
      | dic ks ys => cases h
  | _ => cases h
/-- a[b] -/
theorem j_ix (ha : JE X g a da) (hb : JE X g b db) (hs : PlainIx b := by exact fun _ _ => rfl) : JE X g (.Subscript a b pos) (dBin fIx da db) := by
  refine ⟨fun pins s σ H Q I h => ?_⟩
  obtain ⟨l, st, rfl, ok, h⟩ := h
  refine Subscript_ (binT (R := fun x y H2 => ∃ l2 st2 p q, l2.H = H2 ∧ Sok X.K g l2 st2 σ ∧ RepG X.K g l2 p x ∧ RepG X.K g l2 q y ∧ Run X.K g (fIx p q st2) l2 σ Q) ha hb I ?_ fun v u s2 x y H2 I2 rx ry q => ?_)
  · refine ⟨l, st, rfl, ok, Run.mono (Run.bind h) fun u H1 ⟨l1, s1, p, e1, ok1, r1, st1, h1⟩ => ?_⟩
    refine ⟨l1, s1, e1, ok1, Run.mono (Run.bind h1) fun w H2 ⟨l2, s2, q, e2, ok2, r2, st2, h2⟩ => ?_⟩
    exact ⟨l2, s2, p, q, e2, ok2, st2.rep r1, r2, h2⟩
  · obtain ⟨l2, st2, p, q, rfl, ok2, rp, rq, h⟩ := q
    cases q with
    | int i =>
      cases (show y = .int i from rq)
      simp only [fIx] at h
      cases e : asL st2.mu p with
      | none => rw [e] at h; exact h.elim
      | some xs =>
        rw [e] at h
        obtain ⟨a, vs, rfl, hq, rv⟩ := rep_asL ok2 rp e
        cases e2 : atI xs i with
        | none => simp only [e2, optR] at h; exact h.elim
        | some v =>
          simp only [e2, optR] at h
          obtain ⟨w, hw, rw'⟩ := rv.at e2
          refine IxR.or ix_list ix_tup _ _ pins s2 σ l2.H (.ref a) (.int i) _ _ Q I2 rx ry ?_ (hs _ _)
          rcases hq with hq | hq
          · exact .inl ⟨a, vs, i, w, rfl, rfl, hq, hw, h l2 w (Step.refl l2) ok2 rw'⟩
          · exact .inr ⟨a, vs, i, w, rfl, rfl, hq, hw, h l2 w (Step.refl l2) ok2 rw'⟩
    | _ => exact h.elim
theorem c_len : CJ X g (fun us => call (.builtin "len") us) fLen := CJ.of call_len fun l st σ ps xs Q ok rp run => by
  unfold fLen at run
  split at run
  · obtain ⟨v, r, rfl, h1, h2⟩ := rp
    cases (show r = [] from h2)
    split at run
    · rename_i z
      exact ⟨v, _, rfl, by rw [show v = .str _ from h1]; exact ⟨by rw [line_eq]; exact z, rfl⟩, run l _ (Step.refl l) ok rfl⟩
    · exact run.elim
  · obtain ⟨v, r, rfl, h1, h2⟩ := rp
    cases (show r = [] from h2)
    rename_i p hp
    cases e : asL st.mu p with
    | none => rw [e] at run; exact run.elim
    | some ys =>
      rw [e] at run
      obtain ⟨a, vs, rfl, hq, rv⟩ := rep_asL ok h1 e
      refine ⟨.ref a, ys.length, rfl, ?_, run l _ (Step.refl l) ok rfl⟩
      rcases hq with hq | hq
      · exact .inl ⟨vs, hq, rv.length⟩
      · exact .inr ⟨vs, hq, rv.length⟩
  · exact run.elim
theorem c_list : CJ X g (fun us => call (.type "list") us) fList := CJ.of call_list_of fun l st σ ps xs Q ok rp run => by
  unfold fList at run
  split at run
  · obtain ⟨v, r, rfl, h1, h2⟩ := rp
    cases (show r = [] from h2)
    rename_i p
    cases e : asL st.mu p with
    | none => rw [e] at run; exact run.elim
    | some ys =>
      rw [e] at run
      obtain ⟨a, vs, rfl, hq, rv⟩ := rep_asL ok h1 e
      exact ⟨a, vs, rfl, hq, Run.lst run ok rv⟩
  · exact run.elim
theorem c_abs : CJ X g (fun us => call (.builtin "abs") us) fAbsI := CJ.of call_abs fun l st σ ps xs Q ok rp run => by
  unfold fAbsI at run
  split at run
  · obtain ⟨v, r, rfl, h1, h2⟩ := rp
    cases (show r = [] from h2)
    rename_i i
    refine ⟨i, by rw [show v = .int i from h1], run l _ (Step.refl l) ok ?_⟩
    show V.int _ = V.int _
    congr 1
    omega
  · exact run.elim
theorem c_max2 (hc : X.calm = true) : CJ X g (fun us => call (.builtin "max") us) fMax2 := CJ.of (call_max2 hc) fun l st σ ps xs Q ok rp run => by
  unfold fMax2 at run
  split at run
  · obtain ⟨v, r, rfl, h1, w, r2, rfl, h2, h3⟩ := rp
    cases (show r2 = [] from h3)
    rename_i i j
    refine ⟨i, j, by rw [show v = .int i from h1, show w = .int j from h2], run l _ (Step.refl l) ok ?_⟩
    show V.int _ = V.int _
    congr 1
    omega
  · exact run.elim
theorem c_min2 (hc : X.calm = true) : CJ X g (fun us => call (.builtin "min") us) fMin2 := CJ.of (call_min2 hc) fun l st σ ps xs Q ok rp run => by
  unfold fMin2 at run
  split at run
  · obtain ⟨v, r, rfl, h1, w, r2, rfl, h2, h3⟩ := rp
    cases (show r2 = [] from h3)
    rename_i i j
    refine ⟨i, j, by rw [show v = .int i from h1, show w = .int j from h2], run l _ (Step.refl l) ok ?_⟩
    show V.int _ = V.int _
    congr 1
    omega
  · exact run.elim
theorem c_tuple : CJ X g (fun us => call (.type "tuple") us) fTuple := CJ.of call_tuple_of fun l st σ ps xs Q ok rp run => by
  unfold fTuple at run
  split at run
  · obtain ⟨v, r, rfl, h1, h2⟩ := rp
    cases (show r = [] from h2)
    rename_i p
    cases p with
    | lst ys =>
      obtain ⟨a, vs, rfl, _, ha, ra⟩ := h1
      exact ⟨a, vs, rfl, .inl ⟨SqL.of ha, Run.tup run ok ra⟩⟩
    | frz ys =>
      obtain ⟨a, vs, rfl, ha, ra⟩ := h1
      exact ⟨a, vs, rfl, .inl ⟨SqL.of2 ha, Run.tup run ok ra⟩⟩
    | tup ys =>
      obtain ⟨a, vs, rfl, ha, ra⟩ := h1
      exact ⟨a, vs, rfl, .inr ⟨SqT.of2 ha, run l _ (Step.refl l) ok ⟨a, vs, rfl, ha, ra⟩⟩⟩
    | ptr n =>
      obtain ⟨a, ha, rfl⟩ := h1
      simp only [asL] at run
      cases e : st.mu[n]? with
      | none => rw [e] at run; exact run.elim
      | some m =>
        rw [e] at run
        cases m with
        | lst ys =>
          obtain ⟨vs, q1, q2⟩ := ok.mu n a _ ha e
          exact ⟨a, vs, rfl, .inl ⟨SqL.of q1, Run.tup run ok q2⟩⟩
        | ins C ns ys => exact run.elim
        | nst C ns ys => exact run.elim
        | dic ks ys => exact run.elim
    | _ => exact run.elim
  · exact run.elim
end
end L3
namespace L3
open PySem PySem.Spec PyProof.Rows L2
@[simp] def dSkip : DS := fun s => .ok .nx s
@[simp] def dSeq (a b : DS) : DS := fun s => (a s).bind fun f s1 => match f with
  | .nx => b s1
  | .rt v => .ok (.rt v) s1
  | .bk => .ok .bk s1
  | .ct => .ok .ct s1
@[simp] def setE (i : Nat) (v : PV) (s : S) : S := ⟨s.env.set i (some (.val v)), s.mu⟩
@[simp] def dSet (i : Nat) (d : DE) : DS := fun s => (d s).bind fun v s1 => .ok .nx (setE i v s1)
@[simp] def dExpr (d : DE) : DS := fun s => (d s).bind fun _ s1 => .ok .nx s1
@[simp] def dRet (d : DE) : DS := fun s => (d s).bind fun v s1 => .ok (.rt v) s1
@[simp] def dRetN : DS := fun s => .ok (.rt .non) s
@[simp] def dBrk : DS := fun s => .ok .bk s
@[simp] def dCont : DS := fun s => .ok .ct s
@[simp] def dIfS (c : DT) (a b : DS) : DS := fun s => (c s).bind fun x s1 => match x with
  | true => a s1
  | false => b s1
@[simp] def dNever : DS := fun _ => .bad
abbrev DG := PV → S → R S Unit
@[simp] def gN (i : Nat) : DG := fun v s => .ok () (setE i v s)
abbrev DGs := List PV → S → R S Unit
@[simp] def gNil : DGs := fun vs s => match vs with
  | [] => .ok () s
  | _ => .bad
@[simp] def gCons (t : DG) (u : DGs) : DGs := fun vs s => match vs with
  | [] => .bad
  | v :: r => (t v s).bind fun _ s1 => u r s1
@[simp] def gT (n : Nat) (t : DGs) : DG := fun v s => match v with
  | .tup xs => if xs.length = n then t xs s else .bad
  | _ => .bad
/-- a target is stored or the run is given up -/
@[simp] def tgt {b : Type} (r : R S Unit) (k : S → R S b) : R S b := match r with
  | .ok _ s => k s
  | _ => .bad
@[simp] def dAsg (d : DE) (t : DG) : DS := fun s => (d s).bind fun v s1 => tgt (t v s1) fun s2 => .ok .nx s2
def forL (t : DG) (b : DS) : List PV → S → R S Fl
  | [], s => .ok .nx s
  | x :: xs, s => tgt (t x s) fun s1 => (b s1).bind fun f s2 => match f with
    | .nx => forL t b xs s2
    | .ct => forL t b xs s2
    | .bk => .ok .nx s2
    | .rt v => .ok (.rt v) s2
abbrev DI := S → R S (List PV)
@[simp] def dFor (di : DI) (t : DG) (b : DS) : DS := fun s => (di s).bind fun xs s1 => forL t b xs s1
def whileL (c : DT) (b : DS) : Nat → S → R S Fl
  | 0, _ => .bad
  | n + 1, s => (c s).bind fun k s1 => match k with
    | false => .ok .nx s1
    | true => (b s1).bind fun f s2 => match f with
      | .nx => whileL c b n s2
      | .ct => whileL c b n s2
      | .bk => .ok .nx s2
      | .rt v => .ok (.rt v) s2
@[simp] def dWhile (fuel : S → Nat) (c : DT) (b : DS) : DS := fun s => whileL c b (fuel s) s
section
variable {K : PySem.W.Frag} {g : Gx} {l : Lc} {s : S} {σ : St} {p : PV} {v : V} {i : Nat}
theorem get_set {α : Type} {xs : List (Option α)} {i j : Nat} {a b : α} (h : (xs.set i (some a))[j]? = some (some b)) : (j = i ∧ a = b ∧ i < xs.length) ∨ (j ≠ i ∧ xs[j]? = some (some b)) := by
  by_cases e : j = i
  · subst e
    by_cases hl : j < xs.length
    · rw [List.getElem?_set_self hl] at h
      cases h
      exact .inl ⟨rfl, rfl, hl⟩
    · rw [List.getElem?_eq_none (by rw [List.length_set]; omega)] at h
      cases h
  · rw [List.getElem?_set_ne (Ne.symm e)] at h
    exact .inr ⟨e, h⟩
theorem Sok.set (ok : Sok K g l s σ) (r : RepG K g l p v) : Sok K g l (setE i p s) (σ.set i (some v)) where
  len := by show (s.env.set i _).length = _; rw [List.length_set, List.length_set]; exact ok.len
  env := fun j w h => by
    rcases get_set h with ⟨e, e2, hl⟩ | ⟨e, h⟩
    · cases e2
      subst e
      exact ⟨v, by rw [List.getElem?_set_self (by rw [← ok.len]; exact hl)], r⟩
    · obtain ⟨u, h1, h2⟩ := ok.env j w h
      exact ⟨u, by rw [List.getElem?_set_ne (Ne.symm e)]; exact h1, h2⟩
  own := fun j xs h => by
    rcases get_set h with ⟨e, e2, hl⟩ | ⟨e, h⟩
    · cases e2
    · obtain ⟨a, vs, h1, h2⟩ := ok.own j xs h
      exact ⟨a, vs, by rw [List.getElem?_set_ne (Ne.symm e)]; exact h1, h2⟩
  dis := fun j k xs ys a hne h1 h2 h3 h4 => by
    rcases get_set h1 with ⟨_, e2, _⟩ | ⟨e1, h1⟩
    · cases e2
    · rcases get_set h2 with ⟨_, e2, _⟩ | ⟨e2, h2⟩
      · cases e2
      · rw [List.getElem?_set_ne (Ne.symm e1)] at h3
        rw [List.getElem?_set_ne (Ne.symm e2)] at h4
        exact ok.dis j k xs ys a hne h1 h2 h3 h4
  mlen := ok.mlen
  mu := ok.mu
  nd := ok.nd
  alM := ok.alM
  there := ok.there
  mn := ok.mn
  tabs := ok.tabs
end
def LI (K : PySem.W.Frag) (g : Gx) (d : DI) (ItOk : Lc → It → List PV → Prop) : TI := fun σ H Rq => ∃ l s, l.H = H ∧ Sok K g l s σ ∧ match d s with
  | .ok xs s' => ∀ l' J, Step l l' → Sok K g l' s' σ → ItOk l' J xs → Rq J l'.H
  | .exn e s' => ∀ l' cls dd, Step l l' → Sok K g l' s' σ → RepX K g l' e cls dd → g.W cls dd σ l'.H
  | .bad => False
/-- an iterator that yields these -/
def ItOk (K : PySem.W.Frag) (g : Gx) (l0 : Lc) (J : It) (xs : List PV) : Prop := ∀ (i : Nat) (g' : Gx) (l : Lc), Step l0 l → g'.CR = g.CR → (∀ a, g'.N a → g.N a ∨ l0.H a = none) → (∀ a, g'.L l a → l.H a ≠ none) →
  (∀ x, xs[i]? = some x → J.go i l.H ∧ ∀ u H', J.yld i l.H u H' → (∀ a o, l.H a = some o → H' a = some o) ∧ (∀ l1 : Lc, l1.al = l.al → l1.M = l.M → l1.H = H' → RepG K g' l1 x u)) ∧ (xs.length ≤ i → J.stop i l.H)
theorem Step.rep2 {K : PySem.W.Frag} {g g' : Gx} {l l' : Lc} (st : Step l l') (ec : g'.CR = g.CR) (hN : ∀ a, g'.N a → g.N a ∨ l.H a = none) {x : PV} {v : V} (h : RepG K g l x v) : RepG K g' l' x v := by
  have q : Rep K g.CR l'.al (g'.L l') l'.H x v := Rep.mono st.al (fun a o n e => ⟨st.keep a o (fun z => n (.inl z)) e, fun z => by
    rcases z with z | z
    · rcases st.new a z with z | z
      · exact n (.inl z)
      · rw [e] at z; cases z
    · rcases hN a z with z | z
      · exact n (.inr z)
      · rw [e] at z; cases z⟩) x v h
  rw [← ec] at q
  exact q
abbrev JI (X : Cx) (g : Gx) (tg iter : Expr) (d : DI) : Prop := PI X tg iter (LI X.K g d (ItOk X.K g))
def LG (K : PySem.W.Frag) (g : Gx) (js : List Nat) (d : DG) : TG := fun v σ H Q => ∃ l s p, l.H = H ∧ Sok K g l s σ ∧ RepG K g l p v ∧ match d p s with
  | .ok _ s' => ∀ l' σ', Step l l' → Sok K g l' s' σ' → (∀ vs : List Nat, (∀ i ∈ js, i ∈ vs) → wipe σ' vs = wipe σ vs) → Q σ' l'.H
  | .exn _ _ => False
  | .bad => False
def LGs (K : PySem.W.Frag) (g : Gx) (js : List Nat) (d : DGs) : TGs := fun vs σ H Q => ∃ l s ps, l.H = H ∧ Sok K g l s σ ∧ RepGL K g l ps vs ∧ match d ps s with
  | .ok _ s' => ∀ l' σ', Step l l' → Sok K g l' s' σ' → (∀ vs : List Nat, (∀ i ∈ js, i ∈ vs) → wipe σ' vs = wipe σ vs) → Q σ' l'.H
  | .exn _ _ => False
  | .bad => False
abbrev JG (X : Cx) (g : Gx) (js : List Nat) (tg : Expr) (d : DG) : Prop := PG X tg (LG X.K g js d)
abbrev JGs (X : Cx) (g : Gx) (js : List Nat) (tg : List Expr) (d : DGs) : Prop := PGs X tg (LGs X.K g js d)
theorem wipe_set {σ : St} {i : Nat} {x : Option V} : ∀ {vs : List Nat}, i ∈ vs → wipe (σ.set i x) vs = wipe σ vs
  | v :: vs, h => by
    unfold wipe
    by_cases e : i ∈ vs
    · rw [wipe_set e]
    · have ev : i = v := by
        rcases List.mem_cons.mp h with h | h
        · exact h
        · exact absurd h e
      subst ev
      have gen : ∀ (ws : List Nat), i ∉ ws → wipe (σ.set i x) ws = (wipe σ ws).set i x := by
        intro ws
        induction ws with
        | nil => intro _; rfl
        | cons w ws ih =>
          intro hw
          unfold wipe
          rw [ih fun z => hw (List.mem_cons_of_mem _ z)]
          exact List.set_comm _ _ (fun z => hw (by rw [z]; exact List.mem_cons_self))
      rw [gen vs e, List.set_set]
section
variable {X : Cx} {g : Gx} {a b c e tg iter : Expr} {es : List Expr} {st : Stmt} {rest : List Stmt} {da db dc de : DE} {ds du : DS} {dt : DT} {dr : DA} {pos : Pos}
theorem PG.cq {t t' : TG} (h : PG X e t) (i : ∀ v σ H Q, t' v σ H Q → t v σ H Q) : PG X e t' := ⟨fun pins s σ H v u Q I r q => h.run pins s σ H v u Q I r (i v σ H Q q)⟩
theorem PGs.cq {t t' : TGs} (h : PGs X es t) (i : ∀ v σ H Q, t' v σ H Q → t v σ H Q) : PGs X es t' := ⟨fun pins s σ H v u Q I r q => h.run pins s σ H v u Q I r (i v σ H Q q)⟩
theorem PI.cq {t t' : TI} (h : PI X tg iter t) (i : ∀ pins s σ H Q, Inv X pins σ H s → t' σ H Q → t σ H Q) : PI X tg iter t' := ⟨fun pins s σ H Q I q => h.run pins s σ H Q I (i pins s σ H Q I q)⟩
theorem js_nil : JSs X g [] dSkip := PSs.cq pss_nil fun D σ H q => by
  obtain ⟨l, s, rfl, ok, q⟩ := q
  exact q l σ (Step.refl l) ok
theorem js_cons (h1 : JS X g st ds) (h2 : JSs X g rest du) : JSs X g (st :: rest) (dSeq ds du) := PSs.cq (pss_cons h1 h2) fun D σ H q => by
  obtain ⟨l, s, rfl, ok, q⟩ := q
  refine ⟨l, s, rfl, ok, ?_⟩
  simp only [dSeq] at q
  cases e : ds s with
  | bad => rw [e] at q; exact q
  | exn e t => rw [e] at q; exact q
  | ok f t =>
    rw [e] at q
    cases f with
    | nx => exact fun l1 σ1 s1 ok1 => ⟨l1, t, rfl, ok1, RunS.step (r := du t) (σ := σ) q s1⟩
    | bk => exact q
    | ct => exact q
    | rt v => exact q
theorem js_one (h1 : JS X g st ds) : JSs X g [st] ds := pss_one h1
theorem js_never : JS X g st dNever := PS.cq ps_never fun pins s D σ H I q => by
  obtain ⟨l, s, rfl, ok, q⟩ := q
  exact q
theorem js_set {i : Nat} {x : Str} {pos' : Pos} (hN : X.N.Nodup) (he : JE X g e de) (hi : X.N[i]? = some x := by rfl) (hx : Loc X.env.scope x := by first | exact Or.inl rfl | exact Or.inr rfl) (hs : swapsWith e (some (.Name x pos')) pos.line X.env = pure false := by rfl)
    (hf : X.fn x = true ∨ X.env.scope.names.lookup x = some .local := by first | exact .inl rfl | exact .inr rfl) : JS X g (.Assign [.Name x pos'] e pos) (dSet i de) := PS.cq (ps_set hN hi hx he hs hf) fun pins s D σ H I q => by
  obtain ⟨l, s, rfl, ok, q⟩ := q
  refine ⟨l, s, rfl, ok, Run.mono (Run.bindS q) fun u H1 ⟨l1, s1, p, e1, ok1, r1, st1, h1⟩ => ?_⟩
  subst e1
  exact h1 l1 _ (Step.refl l1) (ok1.set r1)
theorem js_expr (he : JE X g e de) (hs : swapsWith e none pos.line X.env = pure false := by rfl) : JS X g (.Expr e pos) (dExpr de) := PS.cq (ps_expr he hs) fun pins s D σ H I q => by
  obtain ⟨l, s, rfl, ok, q⟩ := q
  refine ⟨l, s, rfl, ok, Run.mono (Run.bindS q) fun u H1 ⟨l1, s1, p, e1, ok1, r1, st1, h1⟩ => ?_⟩
  subst e1
  exact h1 l1 _ (Step.refl l1) ok1
theorem js_ret (he : JE X g e de) : JS X g (.Return (some e) pos) (dRet de) := PS.cq (ps_ret he) fun pins s D σ H I q => by
  obtain ⟨l, s, rfl, ok, q⟩ := q
  refine ⟨l, s, rfl, ok, Run.mono (Run.bindS q) fun u H1 ⟨l1, s1, p, e1, ok1, r1, st1, h1⟩ => ?_⟩
  subst e1
  exact h1 l1 σ u (Step.refl l1) ok1 r1
theorem js_if {A B : List Stmt} (hc : JT X g c dt) (ha : JSs X g A ds) (hb : JSs X g B du) : JS X g (.If c A B pos) (dIfS dt ds du) := PS.cq (ps_if hc ha hb) fun pins s D σ H I q => by
  obtain ⟨l, s, rfl, ok, q⟩ := q
  refine ⟨l, s, rfl, ok, RunT.mono (RunT.bindS q) fun u H1 ⟨l1, s1, e1, ok1, st1, h1⟩ => ?_⟩
  subst e1
  cases u with
  | true => exact ⟨l1, s1, rfl, ok1, h1⟩
  | false => exact ⟨l1, s1, rfl, ok1, h1⟩
theorem jg_name {x : Str} (i : Nat) (hN : X.N.Nodup) (hi : X.N[i]? = some x := by rfl) (hx : Loc X.env.scope x := by first | exact Or.inl rfl | exact Or.inr rfl) (hf : X.fn x = true ∨ X.env.scope.names.lookup x = some .local := by first | exact .inl rfl | exact .inr rfl) : JG X g [i] (.Name x pos) (gN i) :=
  PG.cq (pg_name hN hi hx hf) fun v σ H Q q => by
    obtain ⟨l, s, p, rfl, ok, r, q⟩ := q
    exact q l _ (Step.refl l) (ok.set r) fun vs hv => wipe_set (hv i List.mem_cons_self)
theorem jgs_nil : JGs X g [] [] gNil := PGs.cq pgs_nil fun v σ H Q q => by
  obtain ⟨l, s, ps, rfl, ok, r, q⟩ := q
  cases ps with
  | nil => exact ⟨r, q l σ (Step.refl l) ok fun _ _ => rfl⟩
  | cons => exact q.elim
theorem jgs_cons {t : DG} {u : DGs} {i1 i2 : List Nat} (h1 : JG X g i1 e t) (h2 : JGs X g i2 es u) (hs : (assignEach (e :: es) X.env).map (·.2) = assign e X.env :: (assignEach es X.env).map (·.2) := by rfl) : JGs X g (i1 ++ i2) (e :: es) (gCons t u) :=
  PGs.cq (pgs_cons h1 h2 hs) fun vs σ H Q q => by
    obtain ⟨l, s, ps, rfl, ok, r, q⟩ := q
    cases ps with
    | nil => exact q.elim
    | cons p ps =>
      obtain ⟨v, w, rfl, r1, r2⟩ := r
      refine ⟨v, w, rfl, l, s, p, rfl, ok, r1, ?_⟩
      simp only [gCons] at q
      cases e : t p s with
      | bad => rw [e] at q; exact q.elim
      | exn e t => rw [e] at q; exact q.elim
      | ok f s1 =>
        rw [e] at q
        intro l1 σ1 st1 ok1 w1
        refine ⟨l1, s1, ps, rfl, ok1, st1.reps r2, ?_⟩
        simp only [R.bind] at q
        cases e2 : u ps s1 with
        | bad => rw [e2] at q; exact q.elim
        | exn e t => rw [e2] at q; exact q.elim
        | ok f s2 =>
          rw [e2] at q
          exact fun l2 σ2 st2 ok2 w2 => q l2 σ2 (st1.trans st2) ok2 fun vs hv => (w2 vs fun i hi => hv i (List.mem_append_right _ hi)).trans (w1 vs fun i hi => hv i (List.mem_append_left _ hi))
theorem jg_tup {t : DGs} {k n : Nat} {js : List Nat} (hc : X.calm = true) (h : JGs X g js es t) (hn : (assignEach es X.env).length = n := by rfl) (hst : (assignEach es X.env).findIdx? (·.1) = none := by rfl) : JG X g js (.Tuple es k pos) (gT n t) :=
  PG.cq (pg_tup hc h hn hst) fun v σ H Q q => by
    obtain ⟨l, s, p, rfl, ok, r, q⟩ := q
    cases p with
    | tup xs =>
      obtain ⟨a, vs, rfl, ha, ra⟩ := r
      simp only [gT] at q
      by_cases z : xs.length = n
      · rw [if_pos z] at q
        exact ⟨a, vs, rfl, SqT.of2 ha, by rw [← ra.length]; exact z, l, s, xs, rfl, ok, ra, q⟩
      · rw [if_neg z] at q
        exact q.elim
    | _ => exact q.elim
theorem js_asg {t : DG} {js : List Nat} (he : JE X g e de) (hg : JG X g js tg t) (hs : swapsWithSole [tg] e pos.line X.env = pure false := by rfl) (hw : swappedStores [tg] e X.env = pure none := by rfl)
    (h1 : (assignEach [tg] X.env).map (·.2) = [assign tg X.env] := by rfl) : JS X g (.Assign [tg] e pos) (dAsg de t) := PS.cq (ps_asg he hg hs hw h1) fun pins s D σ H I q => by
  obtain ⟨l, s, rfl, ok, q⟩ := q
  refine ⟨l, s, rfl, ok, Run.mono (Run.bindS q) fun u H1 ⟨l1, s1, p, e1, ok1, r1, st1, h1⟩ => ?_⟩
  refine ⟨l1, s1, p, e1, ok1, r1, ?_⟩
  cases e : t p s1 with
  | bad => rw [e] at h1; exact h1
  | exn e t => rw [e] at h1; exact h1.elim
  | ok f s2 => rw [e] at h1; exact fun l2 σ2 st2 ok2 _ => h1 l2 σ2 st2 ok2
theorem js_while {body : List Stmt} {fuel : S → Nat} (hp : PassesOwn (model X.prog X.w) X.A X.env X.xe) (hc : JT X g c dt) (hb : JSs X g body ds) : JS X g (.While c body [] pos) (dWhile fuel dt ds) := PS.cq (ps_while hp hc hb) fun pins s D σ H I q => by
  obtain ⟨l, s, rfl, ok, q⟩ := q
  refine ⟨fun m σ' H' => ∃ l' s', l'.H = H' ∧ Sok X.K g l' s' σ' ∧ RunS X.K g (whileL dt ds m s') l' D σ', ⟨fuel s, l, s, rfl, ok, q⟩, ?_⟩
  rintro m σ1 H1 ⟨l1, s1, rfl, ok1, q1⟩
  cases m with
  | zero => exact q1.elim
  | succ m =>
    refine ⟨l1, s1, rfl, ok1, RunT.mono (RunT.bindS (k := fun k s1 => match k with
      | false => .ok .nx s1
      | true => (ds s1).bind fun f s2 => match f with
        | .nx => whileL dt ds m s2
        | .ct => whileL dt ds m s2
        | .bk => .ok .nx s2
        | .rt v => .ok (.rt v) s2) q1) fun u H2 ⟨l2, s2, e2, ok2, st2, h2⟩ => ?_⟩
    subst e2
    cases u with
    | false => exact h2 l2 σ1 (Step.refl l2) ok2
    | true =>
      refine (if_pos rfl).mpr ⟨fun σ' H' => ∃ l' s', l'.H = H' ∧ Sok X.K g l' s' σ' ∧ RunS X.K g (whileL dt ds m s') l' D σ', fun σ' H' z => ⟨m, Nat.lt_succ_self m, z⟩, l2, s2, rfl, ok2, ?_⟩
      simp only at h2
      cases e : ds s2 with
      | bad => rw [e] at h2; exact h2
      | exn e t => rw [e] at h2; exact h2
      | ok f t =>
        rw [e] at h2
        cases f with
        | nx => exact fun l' σ' st' ok' => ⟨l', t, rfl, ok', RunS.step (r := whileL dt ds m t) (σ := σ1) h2 st'⟩
        | ct => exact fun l' σ' st' ok' => ⟨l', t, rfl, ok', RunS.step (r := whileL dt ds m t) (σ := σ1) h2 st'⟩
        | bk => exact h2
        | rt v => exact h2
theorem RunS.nxc {r : R S Fl} {k : S → R S Fl} {D : Ends} {l : Lc} {σ : St} {K : PySem.W.Frag} {N : St → Hp → Prop}
    (h : RunS K g (r.bind fun f s2 => match f with
        | .nx => k s2
        | .ct => k s2
        | .bk => .ok .nx s2
        | .rt v => .ok (.rt v) s2) l D σ) (hN : ∀ t l' σ', Step l l' → Sok K g l' t σ' → RunS K g (k t) l' D σ' → N σ' l'.H) : RunS K g r l { D with nx := N, ct := N, bk := D.nx } σ := by
  cases r with
  | bad => exact h
  | exn e t => exact h
  | ok f t =>
    cases f with
    | nx => exact fun l' σ' st' ok' => hN t l' σ' st' ok' (RunS.step (r := k t) (σ := σ) h st')
    | ct => exact fun l' σ' st' ok' => hN t l' σ' st' ok' (RunS.step (r := k t) (σ := σ) h st')
    | bk => exact h
    | rt v => exact h
theorem js_for {body : List Stmt} {di : DI} {t : DG} {js : List Nat} (hp : PassesOwn (model X.prog X.w) X.A X.env X.xe) (hc : X.calm = true) (hi : JI X g tg iter di) (hg : JG X g js tg t) (hb : JSs X g body ds)
    (hs : ∀ x, foldedSetIterable iter X.env x = pure x := by intro _; rfl) : JS X g (.For tg iter body [] pos) (dFor di t ds) := PS.cq (ps_for hp hc hi hg hb hs) fun pins s D σ H I q => by
  obtain ⟨l, s, rfl, ok, q⟩ := q
  refine ⟨l, s, rfl, ok, ?_⟩
  simp only [dFor] at q
  cases e : di s with
  | bad => rw [e] at q; exact q
  | exn e t => rw [e] at q; exact fun l' c d => q l' σ c d
  | ok xs s1 =>
    rw [e] at q
    intro l0 J st0 ok0 it
    have q0 := RunS.step (r := forL t ds xs s1) (σ := σ) q st0
    refine ⟨fun i m σ' H' => m = xs.length - i ∧ i ≤ xs.length ∧ ∃ l' s', l'.H = H' ∧ Step l0 l' ∧ Sok X.K g l' s' σ' ∧ RunS X.K g (forL t ds (xs.drop i) s') l' D σ', ⟨xs.length, by simp, Nat.zero_le _, l0, s1, rfl, Step.refl l0, ok0, q0⟩, ?_⟩
    rintro i m σ1 H1 ⟨rfl, hi', l1, s2, rfl, st1, ok1, q1⟩
    obtain ⟨i1, i2⟩ := it i g l1 st1 rfl (fun _ h => .inl h) ok1.there
    by_cases hlt : i < xs.length
    · obtain ⟨g1, g2⟩ := i1 xs[i] (by simp [hlt])
      refine .inr ⟨g1, fun σ' H' => ∃ l' s', l'.H = H' ∧ Step l0 l' ∧ Sok X.K g l' s' σ' ∧ RunS X.K g (forL t ds (xs.drop (i + 1)) s') l' D σ', fun σ' H' z => ⟨xs.length - (i + 1), by omega, rfl, hlt, z⟩, fun x H' y => ?_⟩
      obtain ⟨k1, k2⟩ := g2 x H' y
      rw [List.drop_eq_getElem_cons hlt] at q1
      have ok2 : Sok X.K g ⟨l1.al, l1.M, H'⟩ s2 σ1 := ok1.grow rfl rfl k1
      have st2 : Step l1 ⟨l1.al, l1.M, H'⟩ := ⟨⟨[], by simp⟩, fun _ h => .inl h, fun a o _ h => k1 a o h, fun a h => by
        cases q : l1.H a with
        | none => exact absurd q h
        | some o => show H' a ≠ none; rw [k1 a o q]; simp⟩
      refine ⟨⟨l1.al, l1.M, H'⟩, s2, xs[i], rfl, ok2, k2 _ rfl rfl rfl, ?_⟩
      have q2 := RunS.step (r := forL t ds (xs[i] :: xs.drop (i + 1)) s2) (σ := σ1) q1 st2
      unfold forL at q2
      cases et : t xs[i] s2 with
      | bad => rw [et] at q2; exact q2.elim
      | exn e t => rw [et] at q2; exact q2.elim
      | ok f s3 =>
        rw [et] at q2
        intro l3 σ3 st3 ok3 _
        refine ⟨l3, s3, rfl, ok3, ?_⟩
        exact RunS.nxc (k := fun s2 => forL t ds (xs.drop (i + 1)) s2) (RunS.step (σ := σ1) q2 st3) fun t' l' σ' st' ok' h' => ⟨l', t', rfl, (st1.trans st2).trans (st3.trans st'), ok', h'⟩
    · have ei : i = xs.length := by omega
      refine .inl ⟨i2 (by omega), ?_⟩
      rw [ei, List.drop_length] at q1
      exact q1 l1 σ1 (Step.refl l1) ok1
end
end L3
namespace L3
open PySem PySem.Spec PyProof.Rows L2
@[simp] def iSeq (d : DE) : DI := fun s => (d s).bind fun v s1 => match v with
  | .lst xs => .ok xs s1
  | .tup xs => .ok xs s1
  | .frz xs => .ok xs s1
  | _ => .bad
def rangeP (lo : Int) (n : Nat) : List PV := (List.range n).map fun (k : Nat) => .int (lo + (k : Int))
@[simp] def iRange1 (d : DA) : DI := fun s => (d s).bind fun vs s1 => match vs with
  | [.int j] => if -(2 ^ 62) ≤ j ∧ j < 2 ^ 62 then .ok (rangeP 0 j.toNat) s1 else .bad
  | _ => .bad
@[simp] def iRange2 (d : DA) : DI := fun s => (d s).bind fun vs s1 => match vs with
  | [.int i, .int j] => if -(2 ^ 62) ≤ i ∧ i < 2 ^ 62 ∧ -(2 ^ 62) ≤ j ∧ j < 2 ^ 62 then .ok (rangeP i (j - i).toNat) s1 else .bad
  | _ => .bad
def enumP (xs : List PV) : List PV := (List.range xs.length).map fun (k : Nat) => .tup [.int (k : Int), xs.getD k .non]
@[simp] def iEnum (d : DA) : DI := fun s => (d s).bind fun vs s1 => match vs with
  | [.lst xs] => .ok (enumP xs) s1
  | _ => .bad
def zipP (xs ys : List PV) : List PV := (xs.zip ys).map fun p => .tup [p.1, p.2]
@[simp] def iZip (d : DA) : DI := fun s => (d s).bind fun vs s1 => match vs with
  | [.lst xs, .lst ys] => .ok (zipP xs ys) s1
  | [.tup xs, .tup ys] => .ok (zipP xs ys) s1
  | _ => .bad
theorem enumP_get {xs : List PV} {i : Nat} {x : PV} (h : (enumP xs)[i]? = some x) : ∃ y, xs[i]? = some y ∧ x = .tup [.int (i : Int), y] := by
  unfold enumP at h
  rw [List.getElem?_map] at h
  cases e : (List.range xs.length)[i]? with
  | none => rw [e] at h; cases h
  | some k =>
    rw [e] at h
    obtain ⟨hl, ek⟩ := List.getElem?_eq_some_iff.mp e
    rw [List.getElem_range] at ek
    subst ek
    rw [List.length_range] at hl
    cases h
    exact ⟨xs[i], by simp [hl], by simp [List.getD, hl]⟩
theorem zipP_get {xs ys : List PV} {i : Nat} {x : PV} (h : (zipP xs ys)[i]? = some x) : ∃ a b, xs[i]? = some a ∧ ys[i]? = some b ∧ x = .tup [a, b] := by
  unfold zipP at h
  rw [List.getElem?_map] at h
  cases e : (xs.zip ys)[i]? with
  | none => rw [e] at h; cases h
  | some k =>
    rw [e] at h
    cases h
    rw [List.getElem?_zip_eq_some] at e
    exact ⟨k.1, k.2, e.1, e.2, rfl⟩
section
variable {X : Cx} {g : Gx} {a b c e tg iter : Expr} {es : List Expr} {da db dc de : DE} {dr : DA} {pos : Pos}
theorem pi_seq {l : Expr} {tl : TE} (hl : PE X l tl) : PI X tg l (fun σ H Rq => tl σ H fun x H1 => ∃ a, x = .ref a ∧ ((∃ xs, SqL X.K H1 a xs) ∧ Rq (Itl X.K a) H1 ∨ (∃ xs, SqT X.K H1 a xs) ∧ Rq (Itt X.K a) H1)) := by
  refine ⟨fun pins s σ H R I h => ?_⟩
  refine thn (hl.run pins s σ H _ I h) fun v s1 ⟨x, H1, I1, r1, q1⟩ => ?_
  obtain ⟨a, e, ⟨⟨xs, hq⟩, q⟩ | ⟨⟨xs, hq⟩, q⟩⟩ := q1
  · subst e
    cases r1
    obtain ⟨its, rv, p, hz⟩ := I1.list hq
    refine wpAny_pyIter_list p.isList ?_
    refine ⟨s1.heap.objs.size, [s1.heap.objs.size], _, _, H1, rfl, I1.kept (t' := s1.toks) fun b o e => Heap.get?_push_of_some _ e, turn_list a _, ⟨_, Heap.get?_push_size _ rfl, rfl, rfl⟩, fun b hb => ?_, q⟩
    have e : b = s1.heap.objs.size := by simpa using hb
    subst e
    exact I1.fpOk (Nat.le_refl _) (I1.hok.fresh (Nat.le_refl _))
  · subst e
    cases r1
    obtain ⟨its, rv, p, hz⟩ := I1.tuple hq
    refine wpAny_pyIter_tuple (show s1.heap.IsTuple a its.toArray from p) ?_
    refine ⟨s1.heap.objs.size, [s1.heap.objs.size], _, _, H1, rfl, I1.kept (t' := s1.toks) fun b o e => Heap.get?_push_of_some _ e, turn_tuple a _, ⟨_, Heap.get?_push_size _ rfl, rfl, rfl⟩, fun b hb => ?_, q⟩
    have e : b = s1.heap.objs.size := by simpa using hb
    subst e
    exact I1.fpOk (Nat.le_refl _) (I1.hok.fresh (Nat.le_refl _))
theorem rep_here {K : PySem.W.Frag} {l l1 : Lc} {p : PV} {u : V} (ea : l1.al = l.al) (eM : l1.M = l.M) (k : ∀ a o, l.H a = some o → l1.H a = some o) (r : RepG K g l p u) : RepG K g l1 p u := by
  have st : Step l l1 := ⟨⟨[], by simp [ea]⟩, fun a h => .inl (by rw [← eM]; exact h), fun a o _ h => k a o h, fun a h => by
    cases q : l.H a with
    | none => exact absurd q h
    | some o => rw [k a o q]; simp⟩
  exact st.rep r
theorem it_list {K : PySem.W.Frag} {l0 : Lc} {a : Addr} {vs : List V} {xs : List PV} (hn : ∀ l, Step l0 l → SqL K l.H a vs) (rv : RepGL K g l0 xs vs) : ItOk K g l0 (Itl K a) xs := fun i g' l st ec hN th => by
  have h1 := hn l st
  refine ⟨fun x hx => ?_, fun hx => ⟨vs, h1, by rw [← rv.length]; exact hx⟩⟩
  obtain ⟨v, hv, r⟩ := rv.get hx
  refine ⟨⟨vs, v, h1, hv⟩, fun u H' y => ?_⟩
  obtain ⟨e, y⟩ := y
  subst e
  have eu : u = v := by have := y vs h1; rw [hv] at this; exact (Option.some.inj this).symm
  subst eu
  exact ⟨fun _ _ h => h, fun l1 ea eM eH => rep_here ea eM (fun a o h => by rw [eH]; exact h) (st.rep2 ec hN r)⟩
theorem it_tup {K : PySem.W.Frag} {l0 : Lc} {a : Addr} {vs : List V} {xs : List PV} (hn : ∀ l, Step l0 l → SqT K l.H a vs) (rv : RepGL K g l0 xs vs) : ItOk K g l0 (Itt K a) xs := fun i g' l st ec hN th => by
  have h1 := hn l st
  refine ⟨fun x hx => ?_, fun hx => ⟨vs, h1, by rw [← rv.length]; exact hx⟩⟩
  obtain ⟨v, hv, r⟩ := rv.get hx
  refine ⟨⟨vs, v, h1, hv⟩, fun u H' y => ?_⟩
  obtain ⟨e, y⟩ := y
  subst e
  have eu : u = v := by have := y vs h1; rw [hv] at this; exact (Option.some.inj this).symm
  subst eu
  exact ⟨fun _ _ h => h, fun l1 ea eM eH => rep_here ea eM (fun a o h => by rw [eH]; exact h) (st.rep2 ec hN r)⟩
/-- a list of immutables stays -/
theorem lst_stays {K : PySem.W.Frag} {l0 l : Lc} {a : Addr} {vs : List V} (n : ¬ l0.M a) (h : l0.H a = some (.lst vs)) (st : Step l0 l) : SqL K l.H a vs := SqL.of (st.keep a _ n h)
theorem tup_stays {K : PySem.W.Frag} {g : Gx} {l0 l : Lc} {a : Addr} {vs : List V} (h : ¬ g.L l0 a ∧ Rd l0.H a (.tup vs) ∨ KT K a vs) (st : Step l0 l) : SqT K l.H a vs := by
  rcases h with ⟨n, h⟩ | h
  · exact .inl (Rd.keep (fun o q => st.keep a o (fun z => n (.inl z)) q) h)
  · exact .inr h
theorem frz_stays {K : PySem.W.Frag} {g : Gx} {l0 l : Lc} {a : Addr} {vs : List V} (h : ¬ g.L l0 a ∧ Rd l0.H a (.lst vs) ∨ KL K a vs) (st : Step l0 l) : SqL K l.H a vs := by
  rcases h with ⟨n, h⟩ | h
  · exact .inl (Rd.keep (fun o q => st.keep a o (fun z => n (.inl z)) q) h)
  · exact .inr h
/-- an expression's list is walked -/
theorem ji_seq (he : JE X g e de) : JI X g tg e (iSeq de) := PI.cq (pi_seq he) fun pins s σ H Q I q => by
  obtain ⟨l, s, rfl, ok, q⟩ := q
  refine ⟨l, s, rfl, ok, ?_⟩
  simp only [iSeq] at q
  cases e1 : de s with
  | bad => rw [e1] at q; exact q
  | exn e t => rw [e1] at q; exact q
  | ok v t =>
    rw [e1] at q
    intro l1 u st1 ok1 r1
    cases v with
    | lst xs =>
      obtain ⟨a, vs, rfl, n, h, rv⟩ := r1
      exact ⟨a, rfl, .inl ⟨⟨vs, SqL.of h⟩, q l1 _ st1 ok1 (it_list (fun l st => lst_stays (fun z => n (.inl z)) h st) rv)⟩⟩
    | tup xs =>
      obtain ⟨a, vs, rfl, h, rv⟩ := r1
      exact ⟨a, rfl, .inr ⟨⟨vs, SqT.of2 h⟩, q l1 _ st1 ok1 (it_tup (fun l st => tup_stays h st) rv)⟩⟩
    | frz xs =>
      obtain ⟨a, vs, rfl, h, rv⟩ := r1
      exact ⟨a, rfl, .inl ⟨⟨vs, SqL.of2 h⟩, q l1 _ st1 ok1 (it_list (fun l st => frz_stays h st) rv)⟩⟩
    | _ => exact q.elim
theorem it_range {K : PySem.W.Frag} {l0 : Lc} {lo : Int} {n : Nat} : ItOk K g l0 (Itr lo n) (rangeP lo n) := fun i g' l st ec hN th => by
  have hl : (rangeP lo n).length = n := by simp [rangeP]
  refine ⟨fun x hx => ?_, fun hx => by rw [hl] at hx; exact hx⟩
  unfold rangeP at hx
  rw [List.getElem?_map] at hx
  cases e : (List.range n)[i]? with
  | none => rw [e] at hx; cases hx
  | some k =>
    rw [e] at hx
    obtain ⟨h1, ek⟩ := List.getElem?_eq_some_iff.mp e
    rw [List.getElem_range] at ek
    subst ek
    rw [List.length_range] at h1
    cases hx
    refine ⟨h1, fun u H' y => ?_⟩
    obtain ⟨e1, e2⟩ := y
    subst e1 e2
    exact ⟨fun _ _ h => h, fun _ _ _ _ => rfl⟩
theorem ji_range1 {p : Pos} (ha : JA X g [a] dr) (hm : X.mg "range" = none) (hg : Gl X "range" := by rfl) (hs : starEach [a] X.env = [(false, eval a X.env)] := by rfl) : JI X g tg (.Call (.Name "range" p) [a] [] pos) (iRange1 dr) :=
  PI.cq (pi_range1 hg hm ha hs) fun pins s σ H Q I q => by
    obtain ⟨l, s, rfl, ok, q⟩ := q
    refine ⟨l, s, rfl, ok, ?_⟩
    simp only [iRange1] at q
    cases e1 : dr s with
    | bad => rw [e1] at q; exact q
    | exn e t => rw [e1] at q; exact q
    | ok vs t =>
      rw [e1] at q
      intro l1 us st1 ok1 r1
      simp only [R.bind] at q
      split at q
      · rename_i e2
        split at e2
        · rename_i j
          obtain ⟨v, r, rfl, h1, h2⟩ := r1
          cases (show r = [] from h2)
          cases (show v = .int j from h1)
          by_cases z : -(2 ^ 62) ≤ j ∧ j < 2 ^ 62
          · rw [if_pos z] at e2
            cases e2
            exact ⟨j, rfl, z.1, z.2, q l1 _ st1 ok1 it_range⟩
          · rw [if_neg z] at e2
            cases e2
        · cases e2
      · rename_i e2
        split at e2
        · split at e2 <;> cases e2
        · cases e2
      · exact q.elim
theorem upd_keep {H : Hp} {T : Addr} {o : HO} (h : H T = none) : ∀ a u, H a = some u → upd H T o a = some u := fun a u e => by rw [upd_ne (ne_of_none e h)]; exact e
/-- a pair that an iterator lays anew -/
theorem pair_rep {K : PySem.W.Frag} {l l1 : Lc} {T : Addr} {x y : PV} {u v : V} (hT : l.H T = none) (there : ¬ g.L l T) (ea : l1.al = l.al) (eM : l1.M = l.M) (eH : l1.H = upd l.H T (.tup [u, v])) (rx : RepG K g l x u) (ry : RepG K g l y v) : RepG K g l1 (.tup [x, y]) (.ref T) := by
  have k : ∀ a o, l.H a = some o → l1.H a = some o := fun a o h => by rw [eH]; exact upd_keep hT a o h
  refine ⟨T, [u, v], rfl, .inl ⟨fun z => there (by rcases z with z | z; exact .inl (by rw [← eM]; exact z); exact .inr z), .inl (by rw [eH, upd_same])⟩, u, [v], rfl, rep_here ea eM k rx, v, [], rfl, rep_here ea eM k ry, rfl⟩
theorem it_enum {K : PySem.W.Frag} {l0 : Lc} {a : Addr} {vs : List V} {xs : List PV} (hn : ∀ l, Step l0 l → SqL K l.H a vs) (rv : RepGL K g l0 xs vs) : ItOk K g l0 (Ite K a) (enumP xs) := fun i g' l st ec hN th => by
  have h1 := hn l st
  have hl : (enumP xs).length = xs.length := by simp [enumP]
  refine ⟨fun x hx => ?_, fun hx => ⟨vs, h1, by rw [← rv.length]; rw [hl] at hx; exact hx⟩⟩
  obtain ⟨y, hy, rfl⟩ := enumP_get hx
  obtain ⟨v, hv, r⟩ := rv.get hy
  refine ⟨⟨vs, v, h1, hv⟩, fun u H' z => ?_⟩
  obtain ⟨T, w, rfl, hT, rfl, z⟩ := z
  have ew : w = v := by have := z vs h1; rw [hv] at this; exact (Option.some.inj this).symm
  subst ew
  exact ⟨upd_keep hT, fun l1 ea eM eH => pair_rep hT (fun z => th T z hT) ea eM eH rfl (st.rep2 ec hN r)⟩
theorem it_zip {K : PySem.W.Frag} {l0 : Lc} {a b : Addr} {vs ws : List V} {xs ys : List PV} (hn : ∀ l, Step l0 l → SqL K l.H a vs) (hm : ∀ l, Step l0 l → SqL K l.H b ws) (rv : RepGL K g l0 xs vs) (rw' : RepGL K g l0 ys ws) : ItOk K g l0 (Itz K a b) (zipP xs ys) := fun i g' l st ec hN th => by
  have h1 := hn l st
  have h2 := hm l st
  have hl : (zipP xs ys).length = min xs.length ys.length := by simp [zipP]
  refine ⟨fun x hx => ?_, fun hx => ⟨vs, ws, h1, h2, by rw [← rv.length, ← rw'.length]; omega⟩⟩
  obtain ⟨p, q, hp, hq, rfl⟩ := zipP_get hx
  obtain ⟨v, hv, r⟩ := rv.get hp
  obtain ⟨w, hw, r2⟩ := rw'.get hq
  refine ⟨⟨vs, ws, v, w, h1, h2, hv, hw⟩, fun u H' z => ?_⟩
  obtain ⟨T, v', w', rfl, hT, rfl, z1, z2⟩ := z
  have e1 : v' = v := by have := z1 vs h1; rw [hv] at this; exact (Option.some.inj this).symm
  have e2 : w' = w := by have := z2 ws h2; rw [hw] at this; exact (Option.some.inj this).symm
  subst e1 e2
  exact ⟨upd_keep hT, fun l1 ea eM eH => pair_rep hT (fun z => th T z hT) ea eM eH (st.rep2 ec hN r) (st.rep2 ec hN r2)⟩
theorem it_zipT {K : PySem.W.Frag} {l0 : Lc} {a b : Addr} {vs ws : List V} {xs ys : List PV} (hn : ∀ l, Step l0 l → SqT K l.H a vs) (hm : ∀ l, Step l0 l → SqT K l.H b ws) (rv : RepGL K g l0 xs vs) (rw' : RepGL K g l0 ys ws) : ItOk K g l0 (RZ.ItzT K a b) (zipP xs ys) := fun i g' l st ec hN th => by
  have h1 := hn l st
  have h2 := hm l st
  have hl : (zipP xs ys).length = min xs.length ys.length := by simp [zipP]
  refine ⟨fun x hx => ?_, fun hx => ⟨vs, ws, h1, h2, by rw [← rv.length, ← rw'.length]; omega⟩⟩
  obtain ⟨p, q, hp, hq, rfl⟩ := zipP_get hx
  obtain ⟨v, hv, r⟩ := rv.get hp
  obtain ⟨w, hw, r2⟩ := rw'.get hq
  refine ⟨⟨vs, ws, v, w, h1, h2, hv, hw⟩, fun u H' z => ?_⟩
  obtain ⟨T, v', w', rfl, hT, rfl, z1, z2⟩ := z
  have e1 : v' = v := by have := z1 vs h1; rw [hv] at this; exact (Option.some.inj this).symm
  have e2 : w' = w := by have := z2 ws h2; rw [hw] at this; exact (Option.some.inj this).symm
  subst e1 e2
  exact ⟨upd_keep hT, fun l1 ea eM eH => pair_rep hT (fun z => th T z hT) ea eM eH (st.rep2 ec hN r) (st.rep2 ec hN r2)⟩
theorem ji_zip {p tpos : Pos} {elts : List Expr} {kk : Nat} (ha : JA X g [a, b] dr) (hm : X.mg "zip" = none) (hg : Gl X "zip" := by rfl) (hs : starEach [a, b] X.env = (false, eval a X.env) :: starEach [b] X.env := by rfl) (hpl : (backTo pos (starEach [b] X.env)).any (·.1) = false := by rfl) : JI X g (.Tuple elts kk tpos) (.Call (.Name "zip" p) [a, b] [] pos) (iZip dr) :=
  PI.cq (RZ.pi_zipA hg hm ha hs hpl) fun pins s σ H Q I q => by
    obtain ⟨l, s, rfl, ok, q⟩ := q
    refine ⟨l, s, rfl, ok, ?_⟩
    simp only [iZip] at q
    cases e1 : dr s with
    | bad => rw [e1] at q; exact q
    | exn e t => rw [e1] at q; exact q
    | ok vs t =>
      rw [e1] at q
      intro l1 us st1 ok1 r1
      simp only [R.bind] at q
      split at q
      · rename_i e2
        split at e2
        · rename_i xs ys
          cases e2
          obtain ⟨v, r, rfl, h1, w, r2, rfl, h2, h3⟩ := r1
          cases (show r2 = [] from h3)
          obtain ⟨b1, ws1, rfl, n1, hb1, rb1⟩ := h1
          obtain ⟨b2, ws2, rfl, n2, hb2, rb2⟩ := h2
          exact ⟨b1, b2, ws1, ws2, rfl, .inl ⟨SqL.of hb1, SqL.of hb2, q l1 _ st1 ok1 (it_zip (fun l st => lst_stays (fun z => n1 (.inl z)) hb1 st) (fun l st => lst_stays (fun z => n2 (.inl z)) hb2 st) rb1 rb2)⟩⟩
        · rename_i xs ys
          cases e2
          obtain ⟨v, r, rfl, h1, w, r2, rfl, h2, h3⟩ := r1
          cases (show r2 = [] from h3)
          obtain ⟨b1, ws1, rfl, hb1, rb1⟩ := h1
          obtain ⟨b2, ws2, rfl, hb2, rb2⟩ := h2
          exact ⟨b1, b2, ws1, ws2, rfl, .inr ⟨SqT.of2 hb1, SqT.of2 hb2, q l1 _ st1 ok1 (it_zipT (fun l st => tup_stays hb1 st) (fun l st => tup_stays hb2 st) rb1 rb2)⟩⟩
        · cases e2
      · rename_i e2
        split at e2 <;> cases e2
      · exact q.elim
end
end L3
namespace L3
open PySem PySem.Spec PyProof.Rows L2
abbrev DL := S → R S (List PV)
def RunF (K : PySem.W.Frag) (g : Gx) (r : R S (List PV)) (l : Lc) (σ : St) (Q : VK) : Prop := match r with
  | .ok xs s' => ∀ l' us p, Step l l' → Sok K g l' s' σ → RepGL K g l' xs us → l'.H p = none → Q (.ref p) (upd l'.H p (.lst us))
  | .exn e s' => ∀ l' cls dd, Step l l' → Sok K g l' s' σ → RepX K g l' e cls dd → g.W cls dd σ l'.H
  | .bad => False
def LF (K : PySem.W.Frag) (g : Gx) (d : DL) : TE := fun σ H Q => ∃ l s, l.H = H ∧ Sok K g l s σ ∧ RunF K g (d s) l σ Q
/-- code that lays a new list -/
abbrev JF (X : Cx) (g : Gx) (e : Expr) (d : DL) : Prop := PE X e (LF X.K g d)
@[simp] def dFr (d : DL) : DE := fun s => (d s).bind fun xs s1 => .ok (.lst xs) s1
@[simp] def okB {a b : Type} (r : R S a) (k : a → S → R S b) : R S b := match r with
  | .ok v s => k v s
  | _ => .bad
def wipeE (env : List (Option SV)) : List Nat → List (Option SV)
  | [] => env
  | v :: vs => (wipeE env vs).set v none
@[simp] def wipeS (vs : List Nat) (s : S) : S := ⟨wipeE s.env vs, s.mu⟩
@[simp] def dYes : DT := fun s => .ok true s
def compL (t : DG) (tt : DT) (te : DE) (vs : List Nat) : List PV → List PV → S → R S (List PV)
  | [], acc, s => .ok acc s
  | x :: xs, acc, s => tgt (t x s) fun s1 => okB (tt s1) fun b s2 => match b with
    | true => okB (te s2) fun y s3 => if acc.length < 16777216 then compL t tt te vs xs (acc ++ [y]) (wipeS vs s3) else .bad
    | false => compL t tt te vs xs acc (wipeS vs s2)
@[simp] def dComp (di : DI) (t : DG) (tt : DT) (te : DE) (vs : List Nat) : DL := fun s => (di s).bind fun xs s1 => compL t tt te vs xs [] (wipeS vs s1)
@[simp] def dLstF (d : DA) : DL := fun s => (d s).bind fun xs s1 => if xs.length ≤ 1000 then .ok xs s1 else .bad
@[simp] def dListF (d : DE) : DL := fun s => (d s).bind fun p s1 => match asL s1.mu p with
  | some xs => .ok xs s1
  | none => .bad
abbrev W0 : WX := fun _ _ _ _ => False
abbrev Gx.at (g : Gx) (N : Addr → Prop) : Gx := ⟨g.CR, N, W0⟩
/-- the same objects known, the abstract heap another -/
theorem Sok.to {K : PySem.W.Frag} {g g' : Gx} {l l' : Lc} {s : S} {σ : St} (ok : Sok K g l s σ) (ec : g'.CR = g.CR) (ea : l'.al = l.al) (eM : l'.M = l.M) (k : ∀ a o, ¬ g.N a → l.H a = some o → l'.H a = some o) (kN : ∀ a o, ¬ g.N a → l.H a = some o → ¬ g'.N a) (th : ∀ a, l.M a ∨ g'.N a → l'.H a ≠ none) : Sok K g' l' s σ := by
  have rp : ∀ x v, RepG K g l x v → RepG K g' l' x v := fun x v h => by
    have q : Rep K g.CR l'.al (g'.L l') l'.H x v := Rep.mono (fun n a h => by rw [ea]; exact h) (fun a o n e => ⟨k a o (fun z => n (.inr z)) e, fun z => by
      rcases z with z | z
      · exact n (.inl (by rw [← eM]; exact z))
      · exact kN a o (fun z => n (.inr z)) e z⟩) x v h
    rw [← ec] at q
    exact q
  have rps : ∀ x v, RepGL K g l x v → RepGL K g' l' x v := fun x v h => by
    rw [RepGL, RepL.iff] at h ⊢
    exact ⟨h.1, fun i y e => let ⟨w, h1, h2⟩ := h.2 i y e; ⟨w, h1, rp y w h2⟩⟩
  refine ⟨ok.len, fun i v e => ?_, fun i xs e => ?_, ok.dis, by rw [ea]; exact ok.mlen, fun n a m h1 h2 => ?_, by rw [ea]; exact ok.nd, by rw [ea, eM]; exact ok.alM, fun a h => th a (by rw [eM] at h; exact h), fun a h z => ?_, fun x hx => (ok.tabs x hx).to (by rw [eM]; exact (ok.tabs x hx).M) (by rw [ea]; exact (ok.tabs x hx).al) (fun _ q => k _ _ (ok.mn _ (ok.tabs x hx).M) q) fun c q n e => ⟨k _ _ (fun z => n (.inr z)) e, fun z => by
    rcases z with z | z
    · exact n (.inl (by rw [← eM]; exact z))
    · exact kN c _ (fun z => n (.inr z)) e z⟩⟩
  · obtain ⟨u, h1, h2⟩ := ok.env i v e
    exact ⟨u, h1, rp v u h2⟩
  · obtain ⟨a, vs, h1, h2, h3, h4, h5⟩ := ok.own i xs e
    exact ⟨a, vs, h1, by rw [eM]; exact h2, by rw [ea]; exact h3, k _ _ (ok.mn a h2) h4, rps xs vs h5⟩
  · rw [ea] at h1
    have hM := ok.alM a (List.mem_of_getElem? h1)
    have q := ok.mu n a m h1 h2
    cases m with
    | lst xs =>
      obtain ⟨vs, q1, q2⟩ := q
      exact ⟨vs, k _ _ (ok.mn a hM) q1, rps _ _ q2⟩
    | ins C ns xs =>
      obtain ⟨dx, vs, q1, q2, q3⟩ := q
      exact ⟨dx, vs, k _ _ (ok.mn a hM) q1, q2, rps _ _ q3⟩
    | nst C ns xs =>
      obtain ⟨dx, vs, q1, q2, q3⟩ := q
      exact ⟨dx, vs, k _ _ (ok.mn a hM) q1, q2, rps _ _ q3⟩
    | dic ns xs =>
      obtain ⟨vs, q1, q2, q9, q3⟩ := q
      exact ⟨vs, k _ _ (ok.mn a hM) q1, q2, q9, rps _ _ q3⟩
  · rw [eM] at h
    have nn := ok.mn a h
    have hs := ok.there a (.inl h)
    cases q : l.H a with
    | none => exact hs q
    | some o => exact kN a o nn q z
theorem RepL.to {K : PySem.W.Frag} {g g' : Gx} {l l' : Lc} (ec : g'.CR = g.CR) (ea : l'.al = l.al) (eM : l'.M = l.M) (k : ∀ a o, ¬ g.N a → l.H a = some o → l'.H a = some o) (kN : ∀ a o, ¬ g.N a → l.H a = some o → ¬ g'.N a) {x : List PV} {v : List V} (h : RepGL K g l x v) : RepGL K g' l' x v := by
  have q : RepL K g.CR l'.al (g'.L l') l'.H x v := RepL.mono (fun n a h => by rw [ea]; exact h) (fun a o n e => ⟨k a o (fun z => n (.inr z)) e, fun z => by
      rcases z with z | z
      · exact n (.inl (by rw [← eM]; exact z))
      · exact kN a o (fun z => n (.inr z)) e z⟩) x v h
  rw [← ec] at q
  exact q
theorem wipeE_len (env : List (Option SV)) : ∀ vs, (wipeE env vs).length = env.length
  | [] => rfl
  | v :: vs => by unfold wipeE; rw [List.length_set, wipeE_len env vs]
theorem wipeE_get {env : List (Option SV)} {i : Nat} {x : SV} : ∀ {vs : List Nat}, (wipeE env vs)[i]? = some (some x) → env[i]? = some (some x) ∧ i ∉ vs
  | [], h => ⟨h, by simp⟩
  | v :: vs, h => by
    unfold wipeE at h
    by_cases e : i = v
    · subst e
      by_cases hl : i < (wipeE env vs).length
      · rw [List.getElem?_set_self hl] at h; cases h
      · rw [List.getElem?_eq_none (by rw [List.length_set]; omega)] at h; cases h
    · rw [List.getElem?_set_ne (Ne.symm e)] at h
      obtain ⟨h1, h2⟩ := wipeE_get h
      exact ⟨h1, fun z => by rcases List.mem_cons.mp z with z | z; exact e z; exact h2 z⟩
theorem wipe_get {σ : St} {i : Nat} : ∀ {vs : List Nat}, i ∉ vs → (wipe σ vs)[i]? = σ[i]?
  | [], _ => rfl
  | v :: vs, h => by
    unfold wipe
    rw [List.getElem?_set_ne (fun z => h (by rw [z]; exact List.mem_cons_self)), wipe_get fun z => h (List.mem_cons_of_mem _ z)]
/-- slots that are forgotten may hold anything -/
theorem Sok.wipe {K : PySem.W.Frag} {g : Gx} {l : Lc} {s : S} {σ τ : St} {vs : List Nat} (ok : Sok K g l s σ) (h : L2.wipe τ vs = L2.wipe σ vs) : Sok K g l (wipeS vs s) τ := by
  have hl : τ.length = σ.length := by rw [← L2.wipe_length τ vs, h, L2.wipe_length]
  have hg : ∀ i, i ∉ vs → τ[i]? = σ[i]? := fun i hi => by rw [← wipe_get (σ := τ) hi, h, wipe_get hi]
  refine ⟨by show (wipeE s.env vs).length = _; rw [wipeE_len, hl]; exact ok.len, fun i v e => ?_, fun i xs e => ?_, fun i j xs ys a hn e1 e2 h1 h2 => ?_, ok.mlen, ok.mu, ok.nd, ok.alM, ok.there, ok.mn, ok.tabs⟩
  · obtain ⟨e, hi⟩ := wipeE_get e
    obtain ⟨u, h1, h2⟩ := ok.env i v e
    exact ⟨u, by rw [hg i hi]; exact h1, h2⟩
  · obtain ⟨e, hi⟩ := wipeE_get e
    obtain ⟨a, vs', h1, h2⟩ := ok.own i xs e
    exact ⟨a, vs', by rw [hg i hi]; exact h1, h2⟩
  · obtain ⟨e1, hi⟩ := wipeE_get e1
    obtain ⟨e2, hj⟩ := wipeE_get e2
    rw [hg i hi] at h1
    rw [hg j hj] at h2
    exact ok.dis i j xs ys a hn e1 e2 h1 h2
theorem wipe_none {i : Nat} : ∀ (ws : List Nat) (τ : St), i ∈ ws → i < τ.length → (L2.wipe τ ws)[i]? = some none
  | w :: ws, τ, h, hl => by
    show ((L2.wipe τ ws).set w none)[i]? = some none
    by_cases e : w = i
    · subst e
      rw [List.getElem?_set_self (by rw [L2.wipe_length]; exact hl)]
    · rw [List.getElem?_set_ne e]
      exact wipe_none ws τ (by rcases List.mem_cons.mp h with h | h; exact absurd h.symm e; exact h) hl
theorem wipe_wipe (σ : St) (vs : List Nat) : L2.wipe (L2.wipe σ vs) vs = L2.wipe σ vs := List.ext_getElem? fun i => by
  by_cases hi : i ∈ vs
  · by_cases hl : i < σ.length
    · rw [wipe_none vs (L2.wipe σ vs) hi (by rw [L2.wipe_length]; exact hl), wipe_none vs σ hi hl]
    · rw [List.getElem?_eq_none (by rw [L2.wipe_length, L2.wipe_length]; omega), List.getElem?_eq_none (by rw [L2.wipe_length]; omega)]
  · rw [wipe_get hi]
theorem Sok.unwipe {K : PySem.W.Frag} {g : Gx} {l : Lc} {s : S} {σ : St} {vs : List Nat} (ok : Sok K g l s (L2.wipe σ vs)) : Sok K g l s σ := by
  refine ⟨by rw [ok.len, L2.wipe_length], fun i v e => ?_, fun i xs e => ?_, fun i j xs ys a hn e1 e2 h1 h2 => ?_, ok.mlen, ok.mu, ok.nd, ok.alM, ok.there, ok.mn, ok.tabs⟩
  · obtain ⟨u, h1, h2⟩ := ok.env i v e
    exact ⟨u, (wipe_some h1).1, h2⟩
  · obtain ⟨a, ws, h1, h2⟩ := ok.own i xs e
    exact ⟨a, ws, (wipe_some h1).1, h2⟩
  · obtain ⟨b, _, h3, _⟩ := ok.own i xs e1
    obtain ⟨c, _, h4, _⟩ := ok.own j ys e2
    have k3 := (wipe_some h3).1
    have k4 := (wipe_some h4).1
    rw [h1] at k3
    rw [h2] at k4
    cases k3
    cases k4
    exact ok.dis i j xs ys a hn e1 e2 h3 h4
theorem compL_noexn {t : DG} {tt : DT} {te : DE} {vs : List Nat} : ∀ (xs acc : List PV) (s : S) (e : PV) (u : S), compL t tt te vs xs acc s ≠ .exn e u
  | [], acc, s, e, u, h => by unfold compL at h; cases h
  | x :: xs, acc, s, e, u, h => by
    unfold compL at h
    cases e1 : t x s with
    | bad => rw [e1] at h; cases h
    | exn => rw [e1] at h; cases h
    | ok v s1 =>
      rw [e1] at h
      simp only [tgt] at h
      cases e2 : tt s1 with
      | bad => rw [e2] at h; cases h
      | exn => rw [e2] at h; cases h
      | ok b s2 =>
        rw [e2] at h
        simp only [okB] at h
        cases b with
        | false => exact compL_noexn xs acc _ e u h
        | true =>
          cases e3 : te s2 with
          | bad => simp only [e3] at h; cases h
          | exn => simp only [e3] at h; cases h
          | ok y s3 =>
            simp only [e3] at h
            split at h
            · exact compL_noexn xs _ _ e u h
            · cases h
def del (H : Hp) (D : Addr) : Hp := fun a => if a = D then none else H a
theorem del_ne {H : Hp} {D a : Addr} (h : a ≠ D) : del H D a = H a := by unfold del; rw [if_neg h]
theorem del_same {H : Hp} {D : Addr} : del H D D = none := by unfold del; rw [if_pos rfl]
theorem upd_del {H : Hp} {D : Addr} {o : HO} (h : H D = some o) : upd (del H D) D o = H := by
  funext a
  unfold upd del
  by_cases e : a = D
  · rw [if_pos e, e, h]
  · rw [if_neg e, if_neg e]
section
variable {X : Cx} {g : Gx} {a b c e tg iter elt : Expr} {es ifs : List Expr} {da db dc de : DE} {dr : DA} {dl : DL} {pos : Pos}
theorem j_ofF (h : JF X g e dl) : JE X g e (dFr dl) := PE.cq h fun pins s σ H Q I q => by
  obtain ⟨l, s, rfl, ok, q⟩ := q
  refine ⟨l, s, rfl, ok, ?_⟩
  simp only [dFr] at q
  cases e1 : dl s with
  | bad => rw [e1] at q; exact q
  | exn e t => rw [e1] at q; exact q
  | ok xs t =>
    rw [e1] at q
    exact fun l1 us p st1 ok1 r1 hp => Run.lst (Run.step (r := .ok (.lst xs) t) q st1) ok1 r1 p hp
theorem jf_lst (h : JA X g es dr) : JF X g (.List es pos) (dLstF dr) := PE.cq (pe_lst h) fun pins s σ H Q I q => by
  obtain ⟨l, s, rfl, ok, q⟩ := q
  refine ⟨l, s, rfl, ok, ?_⟩
  simp only [dLstF] at q
  cases e1 : dr s with
  | bad => rw [e1] at q; exact q
  | exn e t => rw [e1] at q; exact q
  | ok xs t =>
    rw [e1] at q
    intro l1 us st1 ok1 r1
    simp only [R.bind] at q
    by_cases z : xs.length ≤ 1000
    · rw [if_pos z] at q
      exact ⟨by rw [line_eq, ← r1.length]; omega, fun p hp => q l1 us p st1 ok1 r1 hp⟩
    · rw [if_neg z] at q
      exact q.elim
/-- what a comprehension's reading asks -/
theorem comp_reads {js vs : List Nat} {di : DI} {t : DG} {tt : DT} {te : DE} (hjs : ∀ i ∈ js, i ∈ vs) {σ : St} {H : Hp} {Q : VK} (q : LF X.K g (dComp di t tt te vs) σ H Q) :
    tLc (LI X.K g di (ItOk X.K g)) (fun v σ H Q => ∃ N, LG X.K (g.at N) js t v σ H Q) (fun σ H Q => ∃ N, LT X.K (g.at N) tt σ H Q) (fun σ H Q => ∃ N, LE X.K (g.at N) te σ H Q) vs σ H Q := by
  obtain ⟨l, s, rfl, ok, q⟩ := q
  refine ⟨l, s, rfl, ok, ?_⟩
  simp only [dComp] at q
  cases e1 : di s with
  | bad => rw [e1] at q; exact q
  | exn e t => rw [e1] at q; exact q
  | ok xs s1 =>
    rw [e1] at q
    simp only [R.bind] at q
    intro l1 J st1 ok1 it D hD
    have hND : ¬ g.L l1 D := ok1.fresh hD
    let N' : Addr → Prop := fun a => g.N a ∨ a = D
    have neD : ∀ a o, l1.H a = some o → a ≠ D := fun a o h z => by rw [z, hD] at h; cases h
    have hu : ∀ a o, l1.H a = some o → upd l1.H D (.lst []) a = some o := fun a o h => by rw [upd_ne (neD a o h)]; exact h
    have okS : Sok X.K (g.at N') ⟨l1.al, l1.M, upd l1.H D (.lst [])⟩ (wipeS vs s1) (L2.wipe σ vs) := by
      refine Sok.wipe (σ := σ) (Sok.to ok1 rfl rfl rfl (fun a o _ h => hu a o h) (fun a o n h z => ?_) (fun a h => ?_)) (wipe_wipe σ vs)
      · rcases z with z | z
        · exact n z
        · exact neD a o h z
      · rcases h with h | h | h
        · cases q : l1.H a with
          | none => exact absurd q (ok1.there a (.inl h))
          | some o => show upd l1.H D _ a ≠ none; rw [hu a o q]; simp
        · cases q : l1.H a with
          | none => exact absurd q (ok1.there a (.inr h))
          | some o => show upd l1.H D _ a ≠ none; rw [hu a o q]; simp
        · show upd l1.H D _ a ≠ none
          rw [h, upd_same]; simp
    have stS : Step l1 ⟨l1.al, l1.M, upd l1.H D (.lst [])⟩ := Step.alloc hD
    -- the invariant's last part
    let Fin (r : R S (List PV)) : Prop := match r with
      | .ok ys s' => ∀ l' us, Step l1 l' → Sok X.K (g.at N') l' s' (L2.wipe σ vs) → RepGL X.K (g.at N') l' ys us → l'.H D = some (.lst us) → Q (.ref D) l'.H
      | _ => False
    have fin0 : Fin (compL t tt te vs xs [] (wipeS vs s1)) := by
      show (match compL t tt te vs xs [] (wipeS vs s1) with | .ok ys s' => _ | _ => False)
      cases e2 : compL t tt te vs xs [] (wipeS vs s1) with
      | bad => rw [e2] at q; exact q
      | exn e t => exact absurd e2 (compL_noexn _ _ _ _ _)
      | ok ys s' =>
        rw [e2] at q
        intro l' us st' ok' r' hD'
        have nD : ∀ a, ¬ N' a → a ≠ D := fun a n z => n (.inr z)
        have k0 : ∀ a o, ¬ N' a → l'.H a = some o → del l'.H D a = some o := fun a o n h => by rw [del_ne (nD a n)]; exact h
        have st2 : Step l1 ⟨l'.al, l'.M, del l'.H D⟩ := by
          refine ⟨st'.pre, st'.new, fun a o n h => ?_, fun a h => ?_⟩
          · show del l'.H D a = some o
            rw [del_ne (neD a o h)]
            exact st'.keep a o n h
          · cases e : l1.H a with
            | none => exact absurd e h
            | some o =>
              show del l'.H D a ≠ none
              rw [del_ne (neD a o e)]
              exact st'.dom a h
        have ok2 : Sok X.K g ⟨l'.al, l'.M, del l'.H D⟩ s' σ := by
          refine Sok.unwipe (vs := vs) (Sok.to ok' rfl rfl rfl k0 (fun a o n _ z => n (.inl z)) fun a h => ?_)
          have ne : a ≠ D := fun z => by
            rcases h with h | h
            · exact ok'.mn a h (.inr z)
            · rw [z] at h
              exact hND (.inr h)
          show del l'.H D a ≠ none
          rw [del_ne ne]
          exact ok'.there a (by rcases h with h | h; exact .inl h; exact .inr (.inl h))
        have z := q ⟨l'.al, l'.M, del l'.H D⟩ us D (st1.trans st2) ok2 (RepL.to (g := g.at N') (g' := g) (l := l') (l' := ⟨l'.al, l'.M, del l'.H D⟩) rfl rfl rfl k0 (fun a o n _ z => n (.inl z)) r') del_same
        rw [show upd (del l'.H D) D (.lst us) = l'.H from upd_del hD'] at z
        exact z
    have hDM : ∀ {l : Lc} {s : S} {τ : St}, Sok X.K (g.at N') l s τ → ¬ l.M D := fun ok z => ok.mn D z (.inr rfl)
    refine ⟨fun i m H => m = xs.length - i ∧ i ≤ xs.length ∧ ∃ l s acc us, l.H = H ∧ Step l1 l ∧ Sok X.K (g.at N') l s (L2.wipe σ vs) ∧ H D = some (.lst us) ∧ RepGL X.K (g.at N') l acc us ∧ Fin (compL t tt te vs (xs.drop i) acc s),
      ⟨xs.length, by simp, Nat.zero_le _, _, wipeS vs s1, [], [], rfl, stS, okS, upd_same, rfl, fin0⟩, ?_⟩
    rintro i m H ⟨rfl, hi, l2, s2, acc, us, rfl, st2, ok2, hD2, r2, f2⟩
    obtain ⟨i1, i2⟩ := it i (g.at N') l2 st2 rfl (fun a h => by rcases h with h | h; exact .inl h; exact .inr (by rw [h]; exact hD)) ok2.there
    by_cases hlt : i < xs.length
    · obtain ⟨g1, g2⟩ := i1 xs[i] (by simp [hlt])
      refine .inr ⟨g1, fun H' => ∃ l s acc us, l.H = H' ∧ Step l1 l ∧ Sok X.K (g.at N') l s (L2.wipe σ vs) ∧ H' D = some (.lst us) ∧ RepGL X.K (g.at N') l acc us ∧ Fin (compL t tt te vs (xs.drop (i + 1)) acc s),
        fun H' z => ⟨xs.length - (i + 1), by omega, rfl, hlt, z⟩, fun x H' y => ?_⟩
      obtain ⟨k1, k2⟩ := g2 x H' y
      rw [List.drop_eq_getElem_cons hlt] at f2
      have ok3 : Sok X.K (g.at N') ⟨l2.al, l2.M, H'⟩ s2 (L2.wipe σ vs) := ok2.grow rfl rfl k1
      have st3 : Step l2 ⟨l2.al, l2.M, H'⟩ := ⟨⟨[], by simp⟩, fun _ h => .inl h, fun a o _ h => k1 a o h, fun a h => by
        cases q : l2.H a with
        | none => exact absurd q h
        | some o => show H' a ≠ none; rw [k1 a o q]; simp⟩
      refine ⟨N', ⟨l2.al, l2.M, H'⟩, s2, xs[i], rfl, ok3, k2 _ rfl rfl rfl, ?_⟩
      unfold compL at f2
      cases et : t xs[i] s2 with
      | bad => rw [et] at f2; exact f2.elim
      | exn e t => rw [et] at f2; exact f2.elim
      | ok v s3 =>
        rw [et] at f2
        simp only [tgt] at f2
        intro l4 σ2 st4 ok4 hw
        refine ⟨(hw vs hjs).trans (wipe_wipe σ vs), N', l4, s3, rfl, ok4, ?_⟩
        cases ett : tt s3 with
        | bad => rw [ett] at f2; exact f2.elim
        | exn e t => rw [ett] at f2; exact f2.elim
        | ok b s4 =>
          rw [ett] at f2
          simp only [okB] at f2
          intro l5 st5 ok5
          have stA : Step l2 l5 := st3.trans (st4.trans st5)
          have hD5 : l5.H D = some (.lst us) := stA.keep D _ (hDM ok2) hD2
          cases b with
          | false => exact ⟨l5, wipeS vs s4, acc, us, rfl, st2.trans stA, Sok.wipe ok5 (hw vs hjs).symm, hD5, stA.reps r2, f2⟩
          | true =>
            refine (if_pos rfl).mpr ⟨N', l5, s4, rfl, ok5, ?_⟩
            simp only at f2
            cases ee : te s4 with
            | bad => rw [ee] at f2; exact f2.elim
            | exn e t => rw [ee] at f2; exact f2.elim
            | ok y s5 =>
              rw [ee] at f2
              simp only at f2
              intro l6 u st6 ok6 r6
              have hD6 : l6.H D = some (.lst us) := st6.keep D _ (hDM ok5) hD5
              by_cases hz : acc.length < 16777216
              · rw [if_pos hz] at f2
                refine ⟨us, hD6, by rw [line_eq, ← r2.length]; exact hz, ?_⟩
                have k7 : ∀ a o, ¬ N' a → l6.H a = some o → upd l6.H D (.lst (us ++ [u])) a = some o := fun a o n h => by rw [upd_ne (fun z => n (.inr z))]; exact h
                have stB : Step l1 l6 := st2.trans (stA.trans st6)
                refine ⟨⟨l6.al, l6.M, upd l6.H D (.lst (us ++ [u]))⟩, wipeS vs s5, acc ++ [y], us ++ [u], rfl, ?_, ?_, upd_same, ?_, ?_⟩
                · refine ⟨stB.pre, stB.new, fun a o n h => ?_, fun a h => ?_⟩
                  · show upd l6.H D _ a = some o
                    rw [upd_ne (neD a o h)]
                    exact stB.keep a o n h
                  · show upd l6.H D _ a ≠ none
                    by_cases e : a = D
                    · rw [e, upd_same]; simp
                    · rw [upd_ne e]; exact stB.dom a h
                · refine Sok.wipe (σ := σ2) (Sok.to ok6 rfl rfl rfl k7 (fun a o n _ => n) fun a h => ?_) (hw vs hjs).symm
                  by_cases e : a = D
                  · show upd l6.H D _ a ≠ none
                    rw [e, upd_same]; simp
                  · show upd l6.H D _ a ≠ none
                    rw [upd_ne e]
                    exact ok6.there a h
                · have rq : RepGL X.K (g.at N') l6 [y] [u] := ⟨u, [], rfl, r6, rfl⟩
                  exact RepL.to (g := g.at N') (g' := g.at N') (l := l6) (l' := ⟨l6.al, l6.M, upd l6.H D (.lst (us ++ [u]))⟩) rfl rfl rfl k7 (fun a o n _ => n) (((stA.trans st6).reps r2).append rq)
                · exact f2
              · rw [if_neg hz] at f2
                exact f2.elim
    · have ei : i = xs.length := by omega
      refine .inl ⟨i2 (by omega), ?_⟩
      rw [ei, List.drop_length] at f2
      unfold compL at f2
      exact f2 l2 us st2 ok2 r2 hD2
theorem PG.ex {t : (Addr → Prop) → TG} (h : ∀ N, PG X e (t N)) : PG X e (fun v σ H Q => ∃ N, t N v σ H Q) := ⟨fun pins s σ H v u Q I r ⟨N, q⟩ => (h N).run pins s σ H v u Q I r q⟩
theorem PE.ex {t : (Addr → Prop) → TE} (h : ∀ N, PE X e (t N)) : PE X e (fun σ H Q => ∃ N, t N σ H Q) := ⟨fun pins s σ H Q I ⟨N, q⟩ => (h N).run pins s σ H Q I q⟩
theorem PTs.ex {t : (Addr → Prop) → TT} (h : ∀ N, PTs X ifs (t N)) : PTs X ifs (fun σ H Q => ∃ N, t N σ H Q) := ⟨fun pins s σ H Q I ⟨N, q⟩ => (h N).run pins s σ H Q I q⟩
abbrev JTs (X : Cx) (g : Gx) (es : List Expr) (d : DT) : Prop := PTs X es (LT X.K g d)
theorem jts_nil : JTs X g [] dYes := ⟨fun pins s σ H Q I q => by
  obtain ⟨l, st, rfl, ok, q⟩ := q
  exact pts_nil.run pins s σ l.H Q I (q l (Step.refl l) ok)⟩
theorem jf_comp {scope : Scope} {own : List (Str × Nat)} {di : DI} {t : DG} {tt : DT} {te : DE} {js : List Nat} (hc : X.calm = true) (hN : X.N.Nodup) (hi : JI X g tg iter di) (ok : BlkOk X.N X.env.scope scope own)
    (hg : ∀ (s : Shared) (H : Hp) (C : Addr) (cl : List (Str × Addr)) (fp : List Addr) (N : Addr → Prop), JG (X.blk s H scope (compEnvC scope cl C X.env) fp) (g.at N) js tg t)
    (ht : ∀ (s : Shared) (H : Hp) (C : Addr) (cl : List (Str × Addr)) (fp : List Addr) (N : Addr → Prop), JTs (X.blk s H scope (compEnvC scope cl C X.env) fp) (g.at N) ifs tt)
    (he : ∀ (s : Shared) (H : Hp) (C : Addr) (cl : List (Str × Addr)) (fp : List Addr) (N : Addr → Prop), JE (X.blk s H scope (compEnvC scope cl C X.env) fp) (g.at N) elt te)
    (hjs : ∀ i ∈ js, i ∈ own.map (·.2) := by decide) (hs : ∀ x, foldedSetIterable iter X.env x = pure x := by intro _; rfl) : JF X g (.ListComp elt [⟨tg, iter, ifs, 0⟩] scope pos) (dComp di t tt te (own.map (·.2))) :=
  PE.cq (pe_lc hc hN hi ok (fun s H C cl fp => PG.ex (hg s H C cl fp)) (fun s H C cl fp => PTs.ex (ht s H C cl fp)) (fun s H C cl fp => PE.ex (he s H C cl fp)) hs) fun pins s σ H Q I q => comp_reads hjs q
theorem set_reads {i : Nat} {D : Ends} {σ : St} {H : Hp} (q : LS X.K g (dSet i (dFr dl)) D σ H) : LF X.K g dl σ H (fun x H1 => D.nx (σ.set i (some x)) H1) := by
  obtain ⟨l, s, rfl, ok, q⟩ := q
  refine ⟨l, s, rfl, ok, ?_⟩
  simp only [dSet, dFr] at q
  cases e : dl s with
  | bad => rw [e] at q; exact q
  | exn e t => rw [e] at q; exact fun l' c d => q l' σ c d
  | ok xs t =>
    rw [e] at q
    intro l1 us p st1 ok1 r1 hp
    refine q ⟨l1.al, l1.M, upd l1.H p (.lst us)⟩ _ (st1.trans (Step.alloc hp)) ((ok1.alloc hp).set ?_)
    exact ⟨p, us, rfl, ok1.fresh hp, upd_same, (Step.alloc hp).reps r1⟩
/-- y = [..] on one line -/
theorem js_setLc {scope : Scope} {own : List (Str × Nat)} {di : DI} {t : DG} {tt : DT} {te : DE} {js : List Nat} {i : Nat} {y : Str} {py spos : Pos} (hc : X.calm = true) (hN : X.N.Nodup)
    (hsw : swapsWith (.ListComp elt [⟨tg, iter, ifs, 0⟩] scope pos) (some (.Name y py)) spos.line X.env = pure true) (hi : JI X g tg iter di) (ok : BlkOk X.N X.env.scope scope own)
    (hg : ∀ (s : Shared) (H : Hp) (C : Addr) (cl : List (Str × Addr)) (fp : List Addr) (N : Addr → Prop), JG (X.blk s H scope (compEnvC scope cl C X.env) fp) (g.at N) js tg t)
    (ht : ∀ (s : Shared) (H : Hp) (C : Addr) (cl : List (Str × Addr)) (fp : List Addr) (N : Addr → Prop), JTs (X.blk s H scope (compEnvC scope cl C X.env) fp) (g.at N) ifs tt)
    (he : ∀ (s : Shared) (H : Hp) (C : Addr) (cl : List (Str × Addr)) (fp : List Addr) (N : Addr → Prop), JE (X.blk s H scope (compEnvC scope cl C X.env) fp) (g.at N) elt te)
    (hy : X.N[i]? = some y := by rfl) (hyl : X.env.scope.names.lookup y = some .local := by rfl)
    (hjs : ∀ i ∈ js, i ∈ own.map (·.2) := by decide) (hs : ∀ x, foldedSetIterable iter X.env x = pure x := by intro _; rfl) : JS X g (.Assign [.Name y py] (.ListComp elt [⟨tg, iter, ifs, 0⟩] scope pos) spos) (dSet i (dFr (dComp di t tt te (own.map (·.2))))) :=
  PS.cq (ps_setLc hc hN hy hyl hsw hi ok (fun s H C cl fp => PG.ex (hg s H C cl fp)) (fun s H C cl fp => PTs.ex (ht s H C cl fp)) (fun s H C cl fp => PE.ex (he s H C cl fp)) hs) fun pins s D σ H I q => comp_reads hjs (set_reads q)
end
end L3
namespace L3
open PySem PySem.Spec PyProof.Rows L2
@[simp] def setO (i : Nat) (xs : List PV) (s : S) : S := ⟨s.env.set i (some (.own xs)), s.mu⟩
@[simp] def setM (n : Nat) (xs : List PV) (s : S) : S := ⟨s.env, s.mu.set n (.lst xs)⟩
@[simp] def dOwn (i : Nat) (d : DL) : DS := fun s => (d s).bind fun xs s1 => .ok .nx (setO i xs s1)
@[simp] def dNewF (d : DL) : DE := fun s => (d s).bind fun xs s1 => .ok (.ptr s1.mu.length) ⟨s1.env, s1.mu ++ [.lst xs]⟩
/-- the list that slot i holds, to be changed: its items, and how it is written -/
@[simp] def lstAt (i : Nat) (s : S) : Option (List PV × (List PV → S)) := match s.env[i]? with
  | some (some (.own xs)) => some (xs, fun ys => setO i ys s)
  | some (some (.val (.ptr n))) => (match s.mu[n]? with
    | some (.lst xs) => some (xs, fun ys => setM n ys s)
    | _ => none)
  | _ => none
@[simp] def dApp (i : Nat) (d : DE) : DE := fun s => match lstAt i s with
  | some _ => (d s).bind fun v s1 => (match lstAt i s1 with
    | some (xs, k) => if xs.length < 16777216 then .ok .non (k (xs ++ [v])) else .bad
    | none => .bad)
  | none => .bad
@[simp] def dPopAt (i : Nat) (d : DE) : DE := fun s => match lstAt i s with
  | some _ => (d s).bind fun v s1 => (match v, lstAt i s1 with
    | .int j, some (xs, k) => (match ixN xs.length j with
      | some m => (match xs[m]? with
        | some y => if xs.length ≤ 16777216 then .ok y (k (xs.eraseIdx m)) else .bad
        | none => .bad)
      | none => .bad)
    | _, _ => .bad)
  | none => .bad
@[simp] def dPut (i : Nat) (d ix : DE) : DS := fun s => (d s).bind fun v s1 => match lstAt i s1 with
  | some _ => (ix s1).bind fun j s2 => (match j, lstAt i s2 with
    | .int j, some (xs, k) => (match ixN xs.length j with
      | some m => .ok .nx (k (xs.set m v))
      | none => .bad)
    | _, _ => .bad)
  | none => .bad
section
variable {K : PySem.W.Frag} {g : Gx} {l : Lc} {s : S} {σ : St} {xs ys : List PV} {vs ws : List V} {i n : Nat} {a : Addr}
theorem Step.at_ (h : l.M a) (o : HO) : Step l ⟨l.al, l.M, upd l.H a o⟩ where
  pre := ⟨[], by simp⟩
  new := fun _ h => .inl h
  keep := fun b u n e => by show upd l.H a o b = some u; rw [upd_ne (fun z => n (by rw [z]; exact h))]; exact e
  dom := fun b h => by
    show upd l.H a o b ≠ none
    by_cases e : b = a
    · rw [e, upd_same]; simp
    · rw [upd_ne e]; exact h
theorem upd_there {H : Hp} {a b : Addr} {o : HO} (h : H b ≠ none) : upd H a o b ≠ none := by
  by_cases e : b = a
  · rw [e, upd_same]; simp
  · rw [upd_ne e]; exact h
theorem Sok.ownSet (ok : Sok K g l s σ) (he : s.env[i]? = some (some (.own xs))) (hs : σ[i]? = some (some (.ref a))) (hM : l.M a) (hal : a ∉ l.al) (r : RepGL K g l ys ws) :
    Sok K g ⟨l.al, l.M, upd l.H a (.lst ws)⟩ (setO i ys s) σ := by
  have st : Step l ⟨l.al, l.M, upd l.H a (.lst ws)⟩ := Step.at_ hM _
  have hi : i < s.env.length := (List.getElem?_eq_some_iff.mp he).1
  have oth : ∀ (j : Nat) zs, j ≠ i → (s.env.set i (some (.own ys)))[j]? = some (some (.own zs)) → s.env[j]? = some (some (.own zs)) := fun j zs e h => by rw [List.getElem?_set_ne (Ne.symm e)] at h; exact h
  refine ⟨by show (s.env.set i _).length = _; rw [List.length_set]; exact ok.len, fun j v h => ?_, fun j zs h => ?_, fun j k zs us b hn h1 h2 h3 h4 => ?_, ok.mlen, fun m b o h1 h2 => ?_, ok.nd, ok.alM, fun b h => upd_there (ok.there b h), ok.mn, fun x hx => ?_⟩
  rotate_right
  · obtain ⟨a', vs', e1, _, _, e4, _⟩ := ok.own i xs he
    rw [hs] at e1
    cases e1
    have ne := (ok.tabs x hx).ne e4 fun ps z => by cases z
    exact (ok.tabs x hx).to (ok.tabs x hx).M (ok.tabs x hx).al (fun ps q => by show upd l.H a _ _ = _; rw [upd_ne ne]; exact q) fun c q n e => st.repL' c _ n e
  · rcases get_set h with ⟨_, e, _⟩ | ⟨e, h⟩
    · cases e
    · obtain ⟨u, h1, h2⟩ := ok.env j v h
      exact ⟨u, h1, st.rep h2⟩
  · by_cases e : j = i
    · subst e
      have h' : (s.env.set j (some (.own ys)))[j]? = some (some (.own zs)) := h
      rw [List.getElem?_set_self hi] at h'
      cases h'
      exact ⟨a, ws, hs, hM, hal, upd_same, st.reps r⟩
    · have h' := oth j zs e h
      obtain ⟨b, us, h1, h2, h3, h4, h5⟩ := ok.own j zs h'
      have ne : b ≠ a := fun z => by rw [z] at h1; exact ok.dis j i zs xs a e h' he h1 hs
      exact ⟨b, us, h1, h2, h3, by show upd l.H a _ b = _; rw [upd_ne ne]; exact h4, st.reps h5⟩
  · have g1 : ∃ zs', s.env[j]? = some (some (.own zs')) := by
      by_cases e : j = i
      · rw [e]; exact ⟨xs, he⟩
      · exact ⟨zs, oth j zs e h1⟩
    have g2 : ∃ zs', s.env[k]? = some (some (.own zs')) := by
      by_cases e : k = i
      · rw [e]; exact ⟨xs, he⟩
      · exact ⟨us, oth k us e h2⟩
    obtain ⟨z1, q1⟩ := g1
    obtain ⟨z2, q2⟩ := g2
    exact ok.dis j k z1 z2 b hn q1 q2 h3 h4
  · have ne : b ≠ a := fun z => hal (by rw [← z]; exact List.mem_of_getElem? h1)
    have q := ok.mu m b o h1 h2
    cases o with
    | lst zs =>
      obtain ⟨us, q1, q2⟩ := q
      exact ⟨us, by show upd l.H a _ b = _; rw [upd_ne ne]; exact q1, st.reps q2⟩
    | ins C ns zs =>
      obtain ⟨dx, us, q1, q2, q3⟩ := q
      exact ⟨dx, us, by show upd l.H a _ b = _; rw [upd_ne ne]; exact q1, q2, st.reps q3⟩
    | nst C ns zs =>
      obtain ⟨dx, us, q1, q2, q3⟩ := q
      exact ⟨dx, us, by show upd l.H a _ b = _; rw [upd_ne ne]; exact q1, q2, st.reps q3⟩
    | dic ns zs =>
      obtain ⟨us, q1, q2, q9, q3⟩ := q
      exact ⟨us, by show upd l.H a _ b = _; rw [upd_ne ne]; exact q1, q2, q9, st.reps q3⟩
theorem Sok.muSet {o' : HO} {m' : MO} (ok : Sok K g l s σ) (ha : l.al[n]? = some a) (r : ∀ l', l'.al = l.al → l'.M = l.M → l'.H = upd l.H a o' → MoRep K g l' a m') :
    Sok K g ⟨l.al, l.M, upd l.H a o'⟩ ⟨s.env, s.mu.set n m'⟩ σ := by
  have hM : l.M a := ok.alM a (List.mem_of_getElem? ha)
  have st : Step l ⟨l.al, l.M, upd l.H a o'⟩ := Step.at_ hM _
  refine ⟨ok.len, fun j v h => ?_, fun j zs h => ?_, ok.dis, by show l.al.length = (s.mu.set n m').length; rw [List.length_set]; exact ok.mlen, fun m b o h1 h2 => ?_, ok.nd, ok.alM, fun b h => upd_there (ok.there b h), ok.mn, fun x hx => ?_⟩
  rotate_right
  · have ne : tA K x ≠ a := fun z => (ok.tabs x hx).al (by rw [z]; exact List.mem_of_getElem? ha)
    exact (ok.tabs x hx).to (ok.tabs x hx).M (ok.tabs x hx).al (fun ps q => by show upd l.H a _ _ = _; rw [upd_ne ne]; exact q) fun c q n e => st.repL' c _ n e
  · obtain ⟨u, h1, h2⟩ := ok.env j v h
    exact ⟨u, h1, st.rep h2⟩
  · obtain ⟨b, us, h1, h2, h3, h4, h5⟩ := ok.own j zs h
    have ne : b ≠ a := fun z => h3 (by rw [z]; exact List.mem_of_getElem? ha)
    exact ⟨b, us, h1, h2, h3, by show upd l.H a _ b = _; rw [upd_ne ne]; exact h4, st.reps h5⟩
  · have h1' : l.al[m]? = some b := h1
    have h2' : (s.mu.set n m')[m]? = some o := h2
    by_cases e : m = n
    · subst e
      rw [h1'] at ha
      cases ha
      by_cases hl : m < s.mu.length
      · rw [List.getElem?_set_self hl] at h2'
        cases h2'
        exact r _ rfl rfl rfl
      · rw [List.getElem?_eq_none (by rw [List.length_set]; omega)] at h2'
        cases h2'
    · rw [List.getElem?_set_ne (Ne.symm e)] at h2'
      have ne : b ≠ a := fun z => by
        rw [z] at h1'
        have hm : m < l.al.length := (List.getElem?_eq_some_iff.mp h1').1
        have hn' : n < l.al.length := (List.getElem?_eq_some_iff.mp ha).1
        exact e ((List.getElem_inj ok.nd).mp ((List.getElem?_eq_some_iff.mp h1').2.trans (List.getElem?_eq_some_iff.mp ha).2.symm))
      have q := ok.mu m b o h1' h2'
      cases o with
      | lst zs =>
        obtain ⟨us, q1, q2⟩ := q
        exact ⟨us, by show upd l.H a _ b = _; rw [upd_ne ne]; exact q1, st.reps q2⟩
      | ins C ns zs =>
        obtain ⟨dx, us, q1, q2, q3⟩ := q
        exact ⟨dx, us, by show upd l.H a _ b = _; rw [upd_ne ne]; exact q1, q2, st.reps q3⟩
      | nst C ns zs =>
        obtain ⟨dx, us, q1, q2, q3⟩ := q
        exact ⟨dx, us, by show upd l.H a _ b = _; rw [upd_ne ne]; exact q1, q2, st.reps q3⟩
      | dic ns zs =>
        obtain ⟨us, q1, q2, q9, q3⟩ := q
        exact ⟨us, by show upd l.H a _ b = _; rw [upd_ne ne]; exact q1, q2, q9, st.reps q3⟩
/-- a slot's list: where it lies, and how it is written -/
theorem Sok.lst {k : List PV → S} (ok : Sok K g l s σ) (h : lstAt i s = some (xs, k)) : ∃ a vs, σ[i]? = some (some (.ref a)) ∧ l.M a ∧ l.H a = some (.lst vs) ∧ RepGL K g l xs vs ∧
    ∀ ys ws, RepGL K g l ys ws → Sok K g ⟨l.al, l.M, upd l.H a (.lst ws)⟩ (k ys) σ := by
  unfold lstAt at h
  split at h
  · rename_i zs e
    cases h
    obtain ⟨a, vs, h1, h2, h3, h4, h5⟩ := ok.own i _ e
    exact ⟨a, vs, h1, h2, h4, h5, fun ys ws r => ok.ownSet e h1 h2 h3 r⟩
  · rename_i n e
    split at h
    · rename_i zs e2
      cases h
      obtain ⟨u, h1, b, h2, h3⟩ := ok.env i _ e
      subst h3
      obtain ⟨vs, h4, h5⟩ := ok.mu n b _ h2 e2
      refine ⟨b, vs, h1, ok.alM b (List.mem_of_getElem? h2), h4, h5, fun ys ws r => ok.muSet h2 fun l' ea eM eH => ?_⟩
      refine ⟨ws, by rw [eH, upd_same], ?_⟩
      have st : Step l ⟨l.al, l.M, upd l.H b (.lst ws)⟩ := Step.at_ (ok.alM b (List.mem_of_getElem? h2)) _
      obtain ⟨al', M', H'⟩ := l'
      cases ea
      cases eM
      cases eH
      exact st.reps r
    · cases h
  · cases h
end
section
variable {K : PySem.W.Frag} {g : Gx} {l : Lc} {s : S} {σ : St} {xs ys : List PV} {us : List V} {i n : Nat} {p : Addr}
/-- a new list of the frame's own -/
theorem Sok.ownNew (ok : Sok K g l s σ) (hp : l.H p = none) (r : RepGL K g l xs us) : Step l ⟨l.al, fun a => l.M a ∨ a = p, upd l.H p (.lst us)⟩ ∧ Sok K g ⟨l.al, fun a => l.M a ∨ a = p, upd l.H p (.lst us)⟩ (setO i xs s) (σ.set i (some (.ref p))) := by
  have st : Step l ⟨l.al, fun a => l.M a ∨ a = p, upd l.H p (.lst us)⟩ := ⟨⟨[], by simp⟩, fun a h => by
      rcases h with h | h
      · exact .inl h
      · exact .inr (by rw [h]; exact hp), fun a o _ h => by show upd l.H p _ a = some o; rw [upd_ne (ne_of_none h hp)]; exact h, fun a h => upd_there h⟩
  have nal : p ∉ l.al := fun z => ok.there p (.inl (ok.alM p z)) hp
  refine ⟨st, by show (s.env.set i _).length = _; rw [List.length_set, List.length_set]; exact ok.len, fun j v h => ?_, fun j zs h => ?_, fun j k zs ws b hn h1 h2 h3 h4 => ?_, ok.mlen, fun m b o h1 h2 => ?_, ok.nd, fun a h => .inl (ok.alM a h), fun b h => ?_, fun b h => ?_, fun x hx => ?_⟩
  rotate_right
  · have ne : tA K x ≠ p := (ok.tabs x hx).ne0 hp
    exact (ok.tabs x hx).to (.inl (ok.tabs x hx).M) (ok.tabs x hx).al (fun ps q => by show upd l.H p _ _ = _; rw [upd_ne ne]; exact q) fun c q n e => st.repL' c _ n e
  · rcases get_set h with ⟨_, e, _⟩ | ⟨e, h⟩
    · cases e
    · obtain ⟨u, h1, h2⟩ := ok.env j v h
      exact ⟨u, by rw [List.getElem?_set_ne (Ne.symm e)]; exact h1, st.rep h2⟩
  · rcases get_set h with ⟨e, e2, hl⟩ | ⟨e, h⟩
    · cases e2
      subst e
      exact ⟨p, us, by rw [List.getElem?_set_self (by rw [← ok.len]; exact hl)], .inr rfl, nal, upd_same, st.reps r⟩
    · obtain ⟨b, ws, h1, h2, h3, h4, h5⟩ := ok.own j zs h
      exact ⟨b, ws, by rw [List.getElem?_set_ne (Ne.symm e)]; exact h1, .inl h2, h3, by show upd l.H p _ b = _; rw [upd_ne (ne_of_none h4 hp)]; exact h4, st.reps h5⟩
  · have key : ∀ (j : Nat) zs, (setO i xs s).env[j]? = some (some (.own zs)) → (σ.set i (some (V.ref p)))[j]? = some (some (.ref b)) → (j = i ∧ b = p) ∨ (j ≠ i ∧ b ≠ p ∧ s.env[j]? = some (some (.own zs)) ∧ σ[j]? = some (some (.ref b))) := by
      intro j zs q1 q2
      rcases get_set q1 with ⟨e, e2, hl⟩ | ⟨e, q1⟩
      · subst e
        rw [List.getElem?_set_self (by rw [← ok.len]; exact hl)] at q2
        cases q2
        exact .inl ⟨rfl, rfl⟩
      · rw [List.getElem?_set_ne (Ne.symm e)] at q2
        obtain ⟨c, ws, h1, _, _, h4, _⟩ := ok.own j zs q1
        rw [q2] at h1
        cases h1
        exact .inr ⟨e, ne_of_none h4 hp, q1, q2⟩
    rcases key j zs h1 h3 with ⟨a1, a2⟩ | ⟨a1, a2, a3, a4⟩
    · rcases key k ws h2 h4 with ⟨b1, b2⟩ | ⟨b1, b2, b3, b4⟩
      · exact hn (a1.trans b1.symm)
      · exact b2 a2
    · rcases key k ws h2 h4 with ⟨b1, b2⟩ | ⟨b1, b2, b3, b4⟩
      · exact a2 b2
      · exact ok.dis j k zs ws b hn a3 b3 a4 b4
  · have h1' : l.al[m]? = some b := h1
    have nb : b ≠ p := fun z => nal (by rw [← z]; exact List.mem_of_getElem? h1')
    have q := ok.mu m b o h1 h2
    cases o with
    | lst zs =>
      obtain ⟨ws, q1, q2⟩ := q
      exact ⟨ws, by show upd l.H p _ b = _; rw [upd_ne nb]; exact q1, st.reps q2⟩
    | ins C ns zs =>
      obtain ⟨dx, ws, q1, q2, q3⟩ := q
      exact ⟨dx, ws, by show upd l.H p _ b = _; rw [upd_ne nb]; exact q1, q2, st.reps q3⟩
    | nst C ns zs =>
      obtain ⟨dx, ws, q1, q2, q3⟩ := q
      exact ⟨dx, ws, by show upd l.H p _ b = _; rw [upd_ne nb]; exact q1, q2, st.reps q3⟩
    | dic ns zs =>
      obtain ⟨ws, q1, q2, q9, q3⟩ := q
      exact ⟨ws, by show upd l.H p _ b = _; rw [upd_ne nb]; exact q1, q2, q9, st.reps q3⟩
  · rcases h with (h | h) | h
    · exact upd_there (ok.there b (.inl h))
    · show upd l.H p _ b ≠ none
      rw [h, upd_same]; simp
    · exact upd_there (ok.there b (.inr h))
  · rcases h with h | h
    · exact ok.mn b h
    · rw [h]
      exact fun z => ok.there p (.inr z) hp
/-- a new shared list -/
theorem Sok.muNew (ok : Sok K g l s σ) (hp : l.H p = none) (r : RepGL K g l xs us) : Step l ⟨l.al ++ [p], fun a => l.M a ∨ a = p, upd l.H p (.lst us)⟩ ∧ Sok K g ⟨l.al ++ [p], fun a => l.M a ∨ a = p, upd l.H p (.lst us)⟩ ⟨s.env, s.mu ++ [.lst xs]⟩ σ := by
  have st : Step l ⟨l.al ++ [p], fun a => l.M a ∨ a = p, upd l.H p (.lst us)⟩ := ⟨⟨[p], rfl⟩, fun a h => by
      rcases h with h | h
      · exact .inl h
      · exact .inr (by rw [h]; exact hp), fun a o _ h => by show upd l.H p _ a = some o; rw [upd_ne (ne_of_none h hp)]; exact h, fun a h => upd_there h⟩
  have nal : p ∉ l.al := fun z => ok.there p (.inl (ok.alM p z)) hp
  refine ⟨st, ok.len, fun j v h => ?_, fun j zs h => ?_, ok.dis, by show (l.al ++ [p]).length = (s.mu ++ [_]).length; rw [List.length_append, List.length_append, ok.mlen]; rfl, fun m b o h1 h2 => ?_, ?_, fun a h => ?_, fun b h => ?_, fun b h => ?_, fun x hx => ?_⟩
  rotate_right
  · have ne : tA K x ≠ p := (ok.tabs x hx).ne0 hp
    exact (ok.tabs x hx).to (.inl (ok.tabs x hx).M) (fun z => by
      rcases List.mem_append.mp z with z | z
      · exact (ok.tabs x hx).al z
      · exact ne (List.mem_singleton.mp z)) (fun ps q => by show upd l.H p _ _ = _; rw [upd_ne ne]; exact q) fun c q n e => st.repL' c _ n e
  · obtain ⟨u, h1, h2⟩ := ok.env j v h
    exact ⟨u, h1, st.rep h2⟩
  · obtain ⟨b, ws, h1, h2, h3, h4, h5⟩ := ok.own j zs h
    have nb : b ≠ p := ne_of_none h4 hp
    exact ⟨b, ws, h1, .inl h2, fun z => by
      rcases List.mem_append.mp z with z | z
      · exact h3 z
      · exact nb (by simpa using z), by show upd l.H p _ b = _; rw [upd_ne nb]; exact h4, st.reps h5⟩
  · have h1' : (l.al ++ [p])[m]? = some b := h1
    have h2' : (s.mu ++ [MO.lst xs])[m]? = some o := h2
    by_cases e : m < l.al.length
    · rw [List.getElem?_append_left e] at h1'
      rw [List.getElem?_append_left (by rw [← ok.mlen]; exact e)] at h2'
      have nb : b ≠ p := fun z => nal (by rw [← z]; exact List.mem_of_getElem? h1')
      have q := ok.mu m b o h1' h2'
      cases o with
      | lst zs =>
        obtain ⟨ws, q1, q2⟩ := q
        exact ⟨ws, by show upd l.H p _ b = _; rw [upd_ne nb]; exact q1, st.reps q2⟩
      | ins C ns zs =>
        obtain ⟨dx, ws, q1, q2, q3⟩ := q
        exact ⟨dx, ws, by show upd l.H p _ b = _; rw [upd_ne nb]; exact q1, q2, st.reps q3⟩
      | nst C ns zs =>
        obtain ⟨dx, ws, q1, q2, q3⟩ := q
        exact ⟨dx, ws, by show upd l.H p _ b = _; rw [upd_ne nb]; exact q1, q2, st.reps q3⟩
      | dic ns zs =>
        obtain ⟨ws, q1, q2, q9, q3⟩ := q
        exact ⟨ws, by show upd l.H p _ b = _; rw [upd_ne nb]; exact q1, q2, q9, st.reps q3⟩
    · by_cases e2 : m = l.al.length
      · subst e2
        rw [List.getElem?_append_right (Nat.le_refl _), Nat.sub_self] at h1'
        rw [ok.mlen, List.getElem?_append_right (Nat.le_refl _), Nat.sub_self] at h2'
        cases h1'
        cases h2'
        exact ⟨us, upd_same, st.reps r⟩
      · rw [List.getElem?_eq_none (by rw [List.length_append]; show l.al.length + 1 ≤ m; omega)] at h1'
        cases h1'
  · refine List.nodup_append.mpr ⟨ok.nd, by simp, fun a ha b hb => ?_⟩
    rw [List.mem_singleton] at hb
    rw [hb]
    exact fun z => nal (by rw [← z]; exact ha)
  · rcases List.mem_append.mp h with h | h
    · exact .inl (ok.alM a h)
    · exact .inr (by simpa using h)
  · rcases h with (h | h) | h
    · exact upd_there (ok.there b (.inl h))
    · show upd l.H p _ b ≠ none
      rw [h, upd_same]; simp
    · exact upd_there (ok.there b (.inr h))
  · rcases h with h | h
    · exact ok.mn b h
    · rw [h]
      exact fun z => ok.there p (.inr z) hp
end
section
variable {X : Cx} {g : Gx} {a b c e tg iter elt : Expr} {es ifs : List Expr} {da db dc de : DE} {dr : DA} {dl : DL} {pos : Pos}
theorem j_new (h : JF X g e dl) : JE X g e (dNewF dl) := PE.cq h fun pins s σ H Q I q => by
  obtain ⟨l, s, rfl, ok, q⟩ := q
  refine ⟨l, s, rfl, ok, ?_⟩
  simp only [dNewF] at q
  cases e1 : dl s with
  | bad => rw [e1] at q; exact q
  | exn e t => rw [e1] at q; exact q
  | ok xs t =>
    rw [e1] at q
    intro l1 us p st1 ok1 r1 hp
    obtain ⟨st2, ok2⟩ := ok1.muNew hp r1
    exact q _ _ (st1.trans st2) ok2 ⟨p, by rw [← ok1.mlen]; simp, rfl⟩
theorem own_reads {i : Nat} {D : Ends} {σ : St} {H : Hp} (q : LS X.K g (dOwn i dl) D σ H) : LF X.K g dl σ H (fun x H1 => D.nx (σ.set i (some x)) H1) := by
  obtain ⟨l, s, rfl, ok, q⟩ := q
  refine ⟨l, s, rfl, ok, ?_⟩
  simp only [dOwn] at q
  cases e : dl s with
  | bad => rw [e] at q; exact q
  | exn e t => rw [e] at q; exact fun l' c d => q l' σ c d
  | ok xs t =>
    rw [e] at q
    intro l1 us p st1 ok1 r1 hp
    obtain ⟨st2, ok2⟩ := ok1.ownNew (i := i) hp r1
    exact q _ _ (st1.trans st2) ok2
theorem js_own {i : Nat} {x : Str} {pos' : Pos} (hN : X.N.Nodup) (he : JF X g e dl) (hi : X.N[i]? = some x := by rfl) (hx : Loc X.env.scope x := by first | exact Or.inl rfl | exact Or.inr rfl) (hs : swapsWith e (some (.Name x pos')) pos.line X.env = pure false := by rfl)
    (hf : X.fn x = true ∨ X.env.scope.names.lookup x = some .local := by first | exact .inl rfl | exact .inr rfl) : JS X g (.Assign [.Name x pos'] e pos) (dOwn i dl) := PS.cq (ps_set hN hi hx he hs hf) fun pins s D σ H I q => own_reads q
/-- x.append(e) -/
theorem j_app {i : Nat} {x : Str} {px apos : Pos} (he : JE X g e de) (hN : X.N[i]? = some x := by rfl) (hv : Vis X.env.scope x := by first | exact Or.inl rfl | exact Or.inr (Or.inl rfl) | exact Or.inr (Or.inr rfl))
    (hbase : attributeBase (.Name x px) "append" X.env (eval (.Name x px) X.env) = eval (.Name x px) X.env := by rfl)
    (hfew : ((backTo pos (starEach (e :: []) X.env)).all (fun x => !x.1) && (backToKw pos (keywordEach [] X.env)).all (fun x => x.1.isSome)
      && decide ((e :: []).length + ([] : List Keyword).length + (if ([] : List Keyword).isEmpty then 0 else 1) < 30)) = true := by rfl)
    (hline : (apos.endLine == pos.line) = true := by rfl) (hs : starEach (e :: []) X.env = (false, eval e X.env) :: starEach [] X.env := by rfl) (hplain : (backTo pos (starEach [] X.env)).any (·.1) = false := by rfl)
    (hd : (x == ("__debug__" : Str)) = false := by decide) (hcd : (x == ("__classdict__" : Str)) = false := by decide) : JE X g (.Call (.Attribute (.Name x px) "append" apos) [e] [] pos) (dApp i de) :=
  PE.cq (pe_bm PySem.F.plainAttrs_list PySem.F.slot_list_append PySem.F.type_list_append mt_append (pe_var (i := i) hN hv hd hcd) (pa_cons he pa_nil hs) hbase hfew hline hs hplain) fun pins s σ H Q I q => by
    obtain ⟨l, s, rfl, ok, q⟩ := q
    simp only [dApp] at q
    cases e0 : lstAt i s with
    | none => rw [e0] at q; exact q.elim
    | some z =>
      rw [e0] at q
      obtain ⟨xs0, k0⟩ := z
      obtain ⟨a0, vs0, h1, h2, h3, h4, _⟩ := ok.lst e0
      refine ⟨.ref a0, h1, .inl ⟨rfl, vs0, SqL.of h3⟩, l, s, rfl, ok, Run.mono (Run.bind q) fun u H1 ⟨l1, s1, v, e1, ok1, r1, st1, h5⟩ => ?_⟩
      subst e1
      cases e6 : lstAt i s1 with
      | none => rw [e6] at h5; exact h5.elim
      | some z =>
        obtain ⟨xs, k⟩ := z
        rw [e6] at h5
        simp only at h5
        obtain ⟨a1, vs, g1, g2, g3, g4, g5⟩ := ok1.lst e6
        rw [h1] at g1
        cases g1
        by_cases hz : xs.length < 16777216
        · rw [if_pos hz] at h5
          have r : RepGL X.K g l1 [v] [u] := ⟨u, [], rfl, r1, rfl⟩
          exact ⟨a0, vs, u, rfl, rfl, g3, by rw [line_eq, ← g4.length]; exact hz, h5 ⟨l1.al, l1.M, upd l1.H a0 (.lst (vs ++ [u]))⟩ _ (Step.at_ g2 _) (g5 _ _ (g4.append r)) rfl⟩
        · rw [if_neg hz] at h5
          exact h5.elim
/-- x[j] = e -/
theorem js_put {i : Nat} {x : Str} {px tpos : Pos} {di : DE} (he : JE X g e de) (hi : JE X g a di) (hN : X.N[i]? = some x := by rfl) (hv : Vis X.env.scope x := by first | exact Or.inl rfl | exact Or.inr (Or.inl rfl) | exact Or.inr (Or.inr rfl))
    (ha : ∀ v, assign (.Subscript (.Name x px) a tpos) X.env v = (do
      let ov ← holding [v] (eval (.Name x px) X.env)
      let iv ← holding [v, ov] (eval a X.env)
      standAt tpos
      holding [v, ov, iv] (setItem ov iv v)
      release [v, ov, iv] []) := by intro _; rfl)
    (hs : swapsWithSole [.Subscript (.Name x px) a tpos] e pos.line X.env = pure false := by rfl) (hw : swappedStores [.Subscript (.Name x px) a tpos] e X.env = pure none := by rfl)
    (h1 : (assignEach [.Subscript (.Name x px) a tpos] X.env).map (·.2) = [assign (.Subscript (.Name x px) a tpos) X.env] := by rfl)
    (hd : (x == ("__debug__" : Str)) = false := by decide) (hcd : (x == ("__classdict__" : Str)) = false := by decide) : JS X g (.Assign [.Subscript (.Name x px) a tpos] e pos) (dPut i de di) :=
  PS.cq (ps_asg he (pg_sub (pe_var (i := i) hN hv hd hcd) hi set_list ha) hs hw h1) fun pins s D σ H I q => by
    obtain ⟨l, s, rfl, ok, q⟩ := q
    simp only [dPut] at q
    refine ⟨l, s, rfl, ok, Run.mono (Run.bindS q) fun u H1 ⟨l1, s1, v, e1, ok1, r1, st1, h5⟩ => ?_⟩
    subst e1
    cases e0 : lstAt i s1 with
    | none => rw [e0] at h5; exact h5.elim
    | some z =>
      rw [e0] at h5
      obtain ⟨xs0, k0⟩ := z
      obtain ⟨a0, vs0, h1, h2, h3, h4, _⟩ := ok1.lst e0
      refine ⟨.ref a0, h1, l1, s1, rfl, ok1, Run.mono (Run.bindS h5) fun w H2 ⟨l2, s2, j, e2, ok2, r2, st2, h6⟩ => ?_⟩
      subst e2
      cases j with
      | int j =>
        cases (show w = .int j from r2)
        cases e6 : lstAt i s2 with
        | none => rw [e6] at h6; exact h6.elim
        | some z =>
          obtain ⟨xs, k⟩ := z
          rw [e6] at h6
          simp only at h6
          obtain ⟨a1, vs, g1, g2, g3, g4, g5⟩ := ok2.lst e6
          rw [h1] at g1
          cases g1
          cases e7 : ixN xs.length j with
          | none => rw [e7] at h6; exact h6.elim
          | some m =>
            rw [e7] at h6
            rw [g4.length] at e7
            exact ⟨a0, vs, j, m, rfl, rfl, g3, e7, h6 ⟨l2.al, l2.M, upd l2.H a0 (.lst (vs.set m u))⟩ _ (Step.at_ g2 _) (g5 _ _ (RepL.set (st2.rep r1) m g4))⟩
      | _ => exact h6.elim
end
end L3
namespace L3
open PySem PySem.Spec PyProof.Rows L2
/-- room, and no guard on the stack -/
structure Room (k : Nat) (A : Around) : Prop where
  rm : L2.Room k A
  gd : A.guards = some []
theorem Room.un {k : Nat} {A : Around} (r : Room k A) : A.units + 16 * k + 200 < cLine := r.rm.un
theorem Room.dp {k : Nat} {A : Around} (r : Room k A) : A.depth + 3 * k + 5 < recursionLimit := r.rm.dp
theorem Room.hd {k : Nat} {A : Around} (r : Room k A) : A.handled = none := r.rm.hd
theorem Room.mono {j k : Nat} {A : Around} (r : Room k A) (h : j ≤ k) : Room j A := ⟨r.rm.mono h, r.gd⟩
theorem Room.deeper {k : Nat} {A : Around} (r : Room (k + 1) A) (env : Env) : Room k (A.deeper env) := ⟨r.rm.deeper env, r.gd⟩
theorem Room.in1 {k : Nat} {A : Around} (r : Room (k + 1) A) : Room k A.in1 := ⟨r.rm.in1, r.gd⟩
theorem guards_make {A : Around} {C : Addr} {us : List Value} {kw : List (Str × Value)} (h : A.guards = some []) : (A.under (.builtin "type.__call__" ⟨.ref C :: us, kw⟩)).guards = some [] := by
  have e : (A.under (.builtin "type.__call__" ⟨.ref C :: us, kw⟩)).guards = pushGuards (Code.builtin "type.__call__" ⟨.ref C :: us, kw⟩).guards A.guards := rfl
  rw [e, h]
  have g : (Code.builtin "type.__call__" ⟨.ref C :: us, kw⟩).isGuard = false := by simp [Code.isGuard, guardIds]
  simp [Code.guards, g, pushGuards]
theorem Room.make {k : Nat} {A : Around} (r : Room (k + 1) A) (C : Addr) (us : List Value) (kw : List (Str × Value)) : Room k (A.under (.builtin "type.__call__" ⟨.ref C :: us, kw⟩)) := ⟨r.rm.make C us kw, guards_make r.gd⟩
theorem Room.units {k : Nat} {A : Around} (r : Room k A) : A.units + 64 < cLine := r.rm.units
theorem Room.units0 {k : Nat} {A : Around} (r : Room k A) : A.units < cLine := r.rm.units0
structure Sub (X : Cx) (n : Nat) (A : Around) : Prop where
  room : Room n A
  fr : A.frames = X.A.frames
theorem Sub.in1 {X : Cx} {n : Nat} {A : Around} (s : Sub X (n + 1) A) : Sub X n A.in1 := ⟨s.room.in1, s.fr⟩
theorem Sub.mono {X : Cx} {n m : Nat} {A : Around} (s : Sub X n A) (h : m ≤ n) : Sub X m A := ⟨s.room.mono h, s.fr⟩
/-- a def's promise, called where nothing guards -/
structure FnG (P : Program) (w : World) (K : PySem.W.Frag) (mg : Str → Option Value) (base : Heap) (CX : CXT) (k : Nat) (f : Addr) (fd : FuncData) (ps : List Str) (sp : Sp) : Prop where
  len : ∀ vs H Q E, sp vs H Q E → vs.length = ps.length
  run : ∀ (A : Around) (outer : List Env) (s : Shared) (H : Hp) (args : Args) (us : List Value) (vs : List V) (Q : VK) (E : XK), Room k A → Env0 P w K mg base A outer s H → BindsTo s fd args (ps.zip us) → Vals vs us →
    sp vs H Q E → codeAny (model P w) A (.call (.ref f) args) (CR CX outer P w H s Q E) s
theorem FnG.mono {P : Program} {w : World} {K : PySem.W.Frag} {mg : Str → Option Value} {base : Heap} {CX : CXT} {j k : Nat} {f : Addr} {fd : FuncData} {ps : List Str} {sp : Sp} (F : FnG P w K mg base CX j f fd ps sp) (h : j ≤ k) :
    FnG P w K mg base CX k f fd ps sp where
  len := F.len
  run := fun A outer s H args us vs Q E hr => F.run A outer s H args us vs Q E (hr.mono h)
theorem FnG.imp {P : Program} {w : World} {K : PySem.W.Frag} {mg : Str → Option Value} {base : Heap} {CX : CXT} {k : Nat} {f : Addr} {fd : FuncData} {ps : List Str} {sp sp' : Sp} (F : FnG P w K mg base CX k f fd ps sp)
    (h : ∀ vs H Q E, sp' vs H Q E → sp vs H Q E) : FnG P w K mg base CX k f fd ps sp' where
  len := fun vs H Q E q => F.len vs H Q E (h _ _ _ _ q)
  run := fun A outer s H args us vs Q E hr he hb hv hs => F.run A outer s H args us vs Q E hr he hb hv (h _ _ _ _ hs)
/-- where the def's code object stands -/
def CodeAt (K : PySem.W.Frag) (f : Addr) (cdv : Value) (q : Str) : Prop := (∃ (oc : Value) (od : Option Addr) (fd : FuncData) (osl : Array (Option Value)), K.lookup f = some ⟨oc, od, .func fd, osl⟩ ∧ fd.code = cdv) ∧ PySem.W.codeIn K cdv q = true
/-- a def called at one place -/
theorem fn_run {P : Program} {w : World} {K : PySem.W.Frag} {mg : Str → Option Value} {base : Heap} {CX : CXT} {x qual : Str} {params : Arguments} {body : List Stmt} {scope : Scope} {dvs : List V} {kws : List (Str × V)} {f : Addr} {fd : FuncData} {N ps : List Str} {k : Nat}
    {A : Around} {outer : List Env} {s : Shared} {H : Hp} {args : Args} {us : List Value} {vs : List V} {Q : VK} {E : XK} (F : FunD K x qual params body scope dvs kws f fd) (S : FnScope N ps scope) (hr : Room (k + 1) A) (e0 : Env0 P w K mg base A outer s H) (hb : BindsTo s fd args (ps.zip us)) (r : Vals vs us) (hl : vs.length = ps.length)
    (hbody : ∀ (cdv : Value), CodeAt K f cdv qual → Room k (A.deeper (envOfC qual scope s.heap.objs.size f cdv)) → ∃ t, PSs (cxOf CX P w K mg base N qual scope f cdv A outer s H E) body t ∧ t { nx := fun _ H' => Q .non H', rt := Q } (start N vs) H) :
    codeAny (model P w) A (.call (.ref f) args) (CR CX outer P w H s Q E) s := by
  obtain ⟨oc, od, dV, kV, doc, pm, an, cdv, ct, osl, rfl, lk, hcd, _, _⟩ := F.ex
  have KX : K.In s.heap := e0.mod.kin.keeps fun b o e => (e0.bs b o e).1
  refine codeAny_call_function hr.rm.depth (KX _ _ lk) rfl S.co S.gen rfl (PySem.W.codeRec_of KX hcd) (hb _ _ _ _ ?_)
  have hk : ∀ y ∈ ps.zip us, scope.names.lookup y.1 = some .local ∨ (scope.names.lookup y.1 = some .cell ∧ ((cellsFrom (s.heap.objs.size + 1) scope.names []).lookup y.1).isSome = true) := by
    rintro ⟨n, v⟩ hy
    exact (S.par n (List.of_mem_zip hy).1).imp id fun q => ⟨q, PySem.W.cellsFrom_some _ _ _ (.inl q)⟩
  refine wpAny_newFunctionEnv_cells S.kind hk fun env he s1 x => ?_
  cases he
  refine ⟨(e0.mod.nolimit.keeps fun b o e => (e0.bs b o e).1).keeps x.toInCall.keep, codeAny_func ?_⟩
  obtain ⟨t, ht, hq⟩ := hbody cdv ⟨⟨oc, od, _, osl, lk, rfl⟩, hcd⟩ (hr.deeper _)
  have I := inv_start (CX := CX) (E := E) S hr.hd e0 hl r x
  refine wpAny_mono (ht.run [] s1 (start N vs) H _ I hq) (fun fl s' hs => ?_) fun _ _ z => z
  match fl, hs with
  | .ret u, ⟨v, σ', H', J, rv, q⟩ => exact ⟨v, H', J.os, J.bare, J.base, J.hok, rv, q⟩
  | .next, ⟨σ', H', J, q⟩ => exact ⟨.non, H', J.os, J.bare, J.base, J.hok, rfl, q⟩
  | .brk, ⟨_, _, _, q⟩ => exact q.elim
  | .cont, ⟨_, _, _, q⟩ => exact q.elim
/-- from a promise that asks for room alone, at one place -/
theorem fnG_ofC {P : Program} {w : World} {K : PySem.W.Frag} {mg : Str → Option Value} {base : Heap} {CX : CXT} {x qual : Str} {params : Arguments} {body : List Stmt} {scope : Scope} {dvs : List V} {kws : List (Str × V)} {f : Addr} {fd : FuncData} {N ps : List Str} {k : Nat} {sp : Sp}
    (F : FunD K x qual params body scope dvs kws f fd) (S : FnScope N ps scope) (len : ∀ vs H Q E, sp vs H Q E → vs.length = ps.length)
    (hbody : ∀ (cdv : Value) (_ : CodeAt K f cdv qual) (A : Around) (outer : List Env) (s : Shared) (H : Hp) (vs : List V) (Q : VK) (E : XK), Room k (A.deeper (envOfC qual scope s.heap.objs.size f cdv)) → sp vs H Q E →
      ∃ t, PSs (cxOf CX P w K mg base N qual scope f cdv A outer s H E) body t ∧ t { nx := fun _ H' => Q .non H', rt := Q } (start N vs) H) : FnG P w K mg base CX (k + 1) f fd ps sp where
  len := len
  run := fun A outer s H args us vs Q E hr e0 hb r hsp => fn_run F S hr e0 hb r (len _ _ _ _ hsp) fun cdv hc hr' => hbody cdv hc A outer s H vs Q E hr' hsp
theorem fnG_of {P : Program} {w : World} {K : PySem.W.Frag} {mg : Str → Option Value} {base : Heap} {CX : CXT} {x qual : Str} {params : Arguments} {body : List Stmt} {scope : Scope} {dvs : List V} {kws : List (Str × V)} {f : Addr} {fd : FuncData} {N ps : List Str} {k : Nat} {sp : Sp}
    (F : FunD K x qual params body scope dvs kws f fd) (S : FnScope N ps scope) (len : ∀ vs H Q E, sp vs H Q E → vs.length = ps.length)
    (hbody : ∀ (cdv : Value) (A : Around) (outer : List Env) (s : Shared) (H : Hp) (vs : List V) (Q : VK) (E : XK), Room k (A.deeper (envOfC qual scope s.heap.objs.size f cdv)) → sp vs H Q E →
      ∃ t, PSs (cxOf CX P w K mg base N qual scope f cdv A outer s H E) body t ∧ t { nx := fun _ H' => Q .non H', rt := Q } (start N vs) H) : FnG P w K mg base CX (k + 1) f fd ps sp := fnG_ofC F S len fun cdv _ => hbody cdv
/-- a table of code objects -/
def IsT (K : PySem.W.Frag) (a : Addr) : Prop := ∃ x ∈ TK K, a = tA K x
theorem Sok.inM {K : PySem.W.Frag} {g : Gx} {l : Lc} {s : S} {σ : St} (ok : Sok K g l s σ) {a : Addr} (h : a ∈ l.al ∨ IsT K a) : l.M a := h.elim (ok.alM a) fun ⟨x, hx, e⟩ => by rw [e]; exact (ok.tabs x hx).M
theorem Sok.noT {K : PySem.W.Frag} {g : Gx} {l : Lc} {s : S} {σ : St} (ok : Sok K g l s σ) {a : Addr} {o : HO} (e : l.H a = some o) (n : ∀ ps, o ≠ .tbl ps) : ¬ IsT K a := fun ⟨x, hx, z⟩ => (ok.tabs x hx).ne e n z.symm
/-- the state at a call -/
structure Fok (K : PySem.W.Frag) (CR : Addr) (N : Addr → Prop) (l : Lc) (mu : List MO) : Prop where
  iff : ∀ a, l.M a ↔ a ∈ l.al ∨ IsT K a
  ok : Sok K ⟨CR, N, W0⟩ l ⟨[], mu⟩ []
/-- a promise: what F says -/
def spJ (K : PySem.W.Frag) (CR : Addr) (n : Nat) (F : DF) : Sp := fun vs H Q E => ∃ (N : Addr → Prop) (l : Lc) (ps : List PV) (mu : List MO), l.H = H ∧ Fok K CR N l mu ∧ RepGL K ⟨CR, N, W0⟩ l ps vs ∧ ps.length = n ∧ match F ps mu with
  | .ok v mu' => ∀ l' u, Step l l' → Fok K CR N l' mu' → RepG K ⟨CR, N, W0⟩ l' v u → Q u l'.H
  | .exn e mu' => ∀ l' cls dd, Step l l' → Fok K CR N l' mu' → RepX K ⟨CR, N, W0⟩ l' e cls dd → E cls dd l'.H
  | .bad => False
abbrev FJ (P : Program) (w : World) (K : PySem.W.Frag) (mg : Str → Option Value) (base : Heap) (CR : Addr) (k : Nat) (f : Addr) (fd : FuncData) (ps : List Str) (F : DF) : Prop := FnG P w K mg base (L2.CX P w) k f fd ps (spJ K CR ps.length F)
/-- F' says no more than F -/
def Below (n : Nat) (F' F : DF) : Prop := ∀ ps mu, ps.length = n → F' ps mu = .bad ∨ F ps mu = F' ps mu
theorem FJ.imp {P : Program} {w : World} {K : PySem.W.Frag} {mg : Str → Option Value} {base : Heap} {CR : Addr} {k : Nat} {f : Addr} {fd : FuncData} {ps : List Str} {F F' : DF} (h : FJ P w K mg base CR k f fd ps F) (b : Below ps.length F' F) : FJ P w K mg base CR k f fd ps F' :=
  FnG.imp h fun vs H Q E q => by
    obtain ⟨N, l, qs, mu, e, ok, r, hl, q⟩ := q
    refine ⟨N, l, qs, mu, e, ok, r, hl, ?_⟩
    rcases b qs mu hl with z | z
    · rw [z] at q; exact q.elim
    · rw [z]; exact q
def runBody (n : Nat) (d : DS) : DF := fun ps mu => match d ⟨ps.map (fun p => some (.val p)) ++ List.replicate (n - ps.length) none, mu⟩ with
  | .ok (.rt v) s => .ok v s.mu
  | .ok .nx s => .ok .non s.mu
  | .ok _ _ => .bad
  | .exn e s => .exn e s.mu
  | .bad => .bad
theorem Sok.frame {K : PySem.W.Frag} {g g' : Gx} {l : Lc} {s : S} {σ : St} (ok : Sok K g l s σ) (ec : g'.CR = g.CR) (eN : g'.N = g.N) : Sok K g' l s σ := by
  obtain ⟨CR, N, W⟩ := g
  obtain ⟨CR', N', W'⟩ := g'
  cases ec
  cases eN
  exact ⟨ok.len, ok.env, ok.own, ok.dis, ok.mlen, fun n a m h1 h2 => by
    have q := ok.mu n a m h1 h2
    cases m <;> exact q, ok.nd, ok.alM, ok.there, ok.mn, fun x hx => (ok.tabs x hx).same rfl⟩
/-- the shared objects alone -/
theorem Sok.toF {K : PySem.W.Frag} {g : Gx} {l : Lc} {s : S} {σ : St} {N' : Addr → Prop} (ok : Sok K g l s σ) (hN : ∀ a, N' a → l.M a ∨ g.N a) (hN2 : ∀ a, a ∈ l.al ∨ IsT K a → ¬ N' a) : Fok K g.CR N' ⟨l.al, fun a => a ∈ l.al ∨ IsT K a, l.H⟩ s.mu := by
  have hL : ∀ a, ¬ g.L l a → ¬ Gx.L ⟨g.CR, N', W0⟩ ⟨l.al, fun a => a ∈ l.al ∨ IsT K a, l.H⟩ a := fun a n z => by
    rcases z with z | z
    · exact n (.inl (ok.inM z))
    · exact n (hN a z)
  have rp : ∀ x v, RepGL K g l x v → RepGL K ⟨g.CR, N', W0⟩ ⟨l.al, fun a => a ∈ l.al ∨ IsT K a, l.H⟩ x v := fun x v h => RepL.mono (fun _ _ h => h) (fun a o n e => ⟨e, hL a n⟩) x v h
  refine ⟨fun a => Iff.rfl, rfl, fun i v e => by simp at e, fun i v e => by simp at e, fun i j xs ys a _ e => by simp at e, ok.mlen, fun n a m h1 h2 => ?_, ok.nd, fun a h => .inl h, fun a h => ?_, hN2, fun x hx => (ok.tabs x hx).to (.inr ⟨x, hx, rfl⟩) (ok.tabs x hx).al (fun _ q => q) fun c q n e => ⟨e, hL c n⟩⟩
  · have q := ok.mu n a m h1 h2
    cases m with
    | lst xs => obtain ⟨vs, q1, q2⟩ := q; exact ⟨vs, q1, rp _ _ q2⟩
    | ins C ns xs => obtain ⟨dx, vs, q1, q2, q3⟩ := q; exact ⟨dx, vs, q1, q2, rp _ _ q3⟩
    | nst C ns xs => obtain ⟨dx, vs, q1, q2, q3⟩ := q; exact ⟨dx, vs, q1, q2, rp _ _ q3⟩
    | dic ns xs => obtain ⟨vs, q1, q2, q9, q3⟩ := q; exact ⟨vs, q1, q2, q9, rp _ _ q3⟩
  · rcases h with h | h
    · exact ok.there a (.inl (ok.inM h))
    · exact ok.there a (hN a h)
theorem length_start {N : List Str} {vs : List V} (h : vs.length ≤ N.length) : (L2.start N vs).length = N.length := by
  unfold L2.start
  rw [List.length_append, List.length_map, List.length_replicate]
  omega
/-- a body, from what the promise says -/
theorem body_asks {P : Program} {w : World} {K : PySem.W.Frag} {mg : Str → Option Value} {base : Heap} {CR : Addr} {qual : Str} {body : List Stmt} {scope : Scope} {f : Addr} {N ps : List Str} {d : DS} {cdv : Value} {A : Around} {outer : List Env} {s : Shared} {H : Hp} {E : XK} {vs : List V} {Q : VK} (S : FnScope N ps scope)
    (hb : ∀ (Nn : Addr → Prop), JSs (cxOf (L2.CX P w) P w K mg base N qual scope f cdv A outer s H E) ⟨CR, Nn, fun c dd _ H => E c dd H⟩ body d) (h : spJ K CR ps.length (runBody N.length d) vs H Q E) :
    ∃ t, PSs (cxOf (L2.CX P w) P w K mg base N qual scope f cdv A outer s H E) body t ∧ t { nx := fun _ H' => Q .non H', rt := Q } (L2.start N vs) H := by
  have hps : ps.length ≤ N.length := by
    have := congrArg List.length S.pre
    rw [List.length_take] at this
    omega
  obtain ⟨Nn, l, qs, mu, rfl, ok, r, hl, q⟩ := h
  refine ⟨_, hb Nn, l, ⟨qs.map (fun p => some (.val p)) ++ List.replicate (N.length - qs.length) none, mu⟩, rfl, ?_, ?_⟩
  · have hv : vs.length = ps.length := by rw [← r.length]; exact hl
    have e1 : ∀ (i : Nat) sv, (qs.map (fun p => some (SV.val p)) ++ List.replicate (N.length - qs.length) none)[i]? = some (some sv) → ∃ p, qs[i]? = some p ∧ sv = .val p := by
      intro i sv e
      by_cases h : i < qs.length
      · rw [List.getElem?_append_left (by rw [List.length_map]; exact h), List.getElem?_map] at e
        cases e2 : qs[i]? with
        | none => rw [e2] at e; cases e
        | some p => rw [e2] at e; cases e; exact ⟨p, rfl, rfl⟩
      · rw [List.getElem?_append_right (by rw [List.length_map]; omega), List.getElem?_replicate] at e
        split at e <;> cases e
    refine ⟨?_, fun i v e => ?_, fun i v e => ?_, fun i j xs ys a _ e => ?_, ok.ok.mlen, fun n a m h1 h2 => ?_, ok.ok.nd, ok.ok.alM, ok.ok.there, ok.ok.mn, fun x hx => (ok.ok.tabs x hx).same rfl⟩
    · rw [length_start (by omega)]
      show (qs.map (fun p => some (SV.val p)) ++ List.replicate (N.length - qs.length) none).length = _
      rw [List.length_append, List.length_map, List.length_replicate]
      omega
    · obtain ⟨p, h1, h2⟩ := e1 i _ e
      cases h2
      obtain ⟨u, h3, h4⟩ := r.get h1
      refine ⟨u, ?_, h4⟩
      unfold L2.start
      rw [List.getElem?_append_left (by rw [List.length_map]; exact (List.getElem?_eq_some_iff.mp h3).1), List.getElem?_map, h3] <;> rfl
    · obtain ⟨p, h1, h2⟩ := e1 i _ e
      cases h2
    · obtain ⟨p, h1, h2⟩ := e1 i _ e
      cases h2
    · have q := ok.ok.mu n a m h1 h2
      cases m <;> exact q
  · -- the end
    have fin : ∀ {l' : Lc} {s' : L3.S} {σ' : St} {v : PV} {u : V}, Step l l' → Sok K ⟨CR, Nn, fun c dd _ H => E c dd H⟩ l' s' σ' → RepG K ⟨CR, Nn, W0⟩ l' v u →
        Step l ⟨l'.al, fun a => a ∈ l'.al ∨ IsT K a, l'.H⟩ ∧ Fok K CR Nn ⟨l'.al, fun a => a ∈ l'.al ∨ IsT K a, l'.H⟩ s'.mu ∧ RepG K ⟨CR, Nn, W0⟩ ⟨l'.al, fun a => a ∈ l'.al ∨ IsT K a, l'.H⟩ v u := by
      intro l' s' σ' v u st ok' rv
      refine ⟨⟨st.pre, fun a h => st.new a (ok'.inM h), st.keep, st.dom⟩, Sok.toF ok' (fun a h => .inr h) (fun a h => ok'.mn a (ok'.inM h)), Rep.mono (fun _ _ h => h) (fun a o n e => ⟨e, fun z => by
        rcases z with z | z
        · exact n (.inl (ok'.inM z))
        · exact n (.inr z)⟩) v u rv⟩
    unfold runBody at q
    cases e : d ⟨qs.map (fun p => some (.val p)) ++ List.replicate (N.length - qs.length) none, mu⟩ with
    | bad => rw [e] at q; exact q
    | exn ex t =>
      rw [e] at q
      intro l' σ' cls dd st ok' rx
      obtain ⟨f1, f2, _⟩ := fin (v := .non) (u := .non) st ok' rfl
      refine q ⟨l'.al, fun a => a ∈ l'.al ∨ IsT K a, l'.H⟩ cls dd f1 f2 ?_
      obtain ⟨C, ns, xs, us, h1, h2, h3, h4, h5⟩ := rx
      refine ⟨C, ns, xs, us, h1, h2, h3, RepL.mono (fun _ _ h => h) (fun a o n e => ⟨e, fun z => by
        rcases z with z | z
        · exact n (.inl (ok'.inM z))
        · exact n (.inr z)⟩) _ _ h4, ?_⟩
      rcases h5 with h5 | ⟨d', h5, h6, h7⟩
      · exact .inl h5
      · exact .inr ⟨d', h5, fun z => h6 (by
          rcases z with z | z
          · exact .inl (ok'.inM z)
          · exact .inr z), h7⟩
    | ok fl t =>
      rw [e] at q
      cases fl with
      | nx =>
        intro l' σ' st ok'
        obtain ⟨f1, f2, f3⟩ := fin (v := .non) (u := .non) st ok' rfl
        exact q ⟨l'.al, fun a => a ∈ l'.al ∨ IsT K a, l'.H⟩ .non f1 f2 f3
      | rt v =>
        intro l' σ' u st ok' rv
        obtain ⟨f1, f2, f3⟩ := fin st ok' rv
        exact q ⟨l'.al, fun a => a ∈ l'.al ∨ IsT K a, l'.H⟩ u f1 f2 f3
      | bk => exact (show False from q).elim
      | ct => exact (show False from q).elim
/-- THE RULE for a def: what its body computes -/
theorem jf_fnC {P : Program} {w : World} {K : PySem.W.Frag} {mg : Str → Option Value} {base : Heap} {CR : Addr} {x qual : Str} {params : Arguments} {body : List Stmt} {scope : Scope} {dvs : List V} {kws : List (Str × V)} {f : Addr} {fd : FuncData} {N ps : List Str} {k : Nat} {d : DS}
    (F : FunD K x qual params body scope dvs kws f fd) (S : FnScope N ps scope) (hb : ∀ (cdv : Value) (_ : CodeAt K f cdv qual) (A : Around) (outer : List Env) (s : Shared) (H : Hp) (E : XK) (Nn : Addr → Prop), Room k (A.deeper (envOfC qual scope s.heap.objs.size f cdv)) →
      JSs (cxOf (L2.CX P w) P w K mg base N qual scope f cdv A outer s H E) ⟨CR, Nn, fun c dd _ H => E c dd H⟩ body d) : FJ P w K mg base CR (k + 1) f fd ps (runBody N.length d) := by
  refine fnG_ofC F S (fun vs H Q E h => ?_) (fun cdv hcd A outer s H vs Q E hr h => body_asks S (fun Nn => hb cdv hcd A outer s H E Nn hr) h)
  obtain ⟨N, l, qs, mu, e, ok, r, hl, q⟩ := h
  rw [← r.length, hl]
theorem jf_fn {P : Program} {w : World} {K : PySem.W.Frag} {mg : Str → Option Value} {base : Heap} {CR : Addr} {x qual : Str} {params : Arguments} {body : List Stmt} {scope : Scope} {dvs : List V} {kws : List (Str × V)} {f : Addr} {fd : FuncData} {N ps : List Str} {k : Nat} {d : DS}
    (F : FunD K x qual params body scope dvs kws f fd) (S : FnScope N ps scope) (hb : ∀ (cdv : Value) (A : Around) (outer : List Env) (s : Shared) (H : Hp) (E : XK) (Nn : Addr → Prop), Room k (A.deeper (envOfC qual scope s.heap.objs.size f cdv)) →
      JSs (cxOf (L2.CX P w) P w K mg base N qual scope f cdv A outer s H E) ⟨CR, Nn, fun c dd _ H => E c dd H⟩ body d) : FJ P w K mg base CR (k + 1) f fd ps (runBody N.length d) := jf_fnC F S fun cdv _ => hb cdv
/-- the other lists of a frame, hidden from a callee -/
def hidN (K : PySem.W.Frag) (g : Gx) (l : Lc) : Addr → Prop := fun a => g.N a ∨ (l.M a ∧ a ∉ l.al ∧ ¬ IsT K a)
@[simp] def dFnS (F : DF) (da : DA) : DE := fun s => (da s).bind fun ps s1 => match F ps s1.mu with
  | .ok v mu => .ok v ⟨s1.env, mu⟩
  | .exn e mu => .exn e ⟨s1.env, mu⟩
  | .bad => .bad
section
variable {K : PySem.W.Frag} {g : Gx} {l : Lc} {s : S} {σ : St} {ps : List PV} {us : List V} {Q : VK} {F : DF} {n : Nat}
/-- at a call: what the callee's promise asks -/
theorem call_asks (ok : Sok K g l s σ) (r : RepGL K g l ps us) (hn : ps.length = n) (run : Run K g (match F ps s.mu with | .ok v mu => .ok v ⟨s.env, mu⟩ | .exn e mu => .exn e ⟨s.env, mu⟩ | .bad => .bad) l σ Q) :
    spJ K g.CR n F us l.H Q (fun c dd H => g.W c dd σ H) := by
  have hL : ∀ a, (Gx.L ⟨g.CR, hidN K g l, W0⟩ ⟨l.al, fun a => a ∈ l.al ∨ IsT K a, l.H⟩ a) → g.L l a := fun a h => by
    rcases h with h | h | ⟨h, _⟩
    · exact .inl (ok.inM h)
    · exact .inr h
    · exact .inl h
  refine ⟨hidN K g l, ⟨l.al, fun a => a ∈ l.al ∨ IsT K a, l.H⟩, ps, s.mu, rfl, ok.toF (fun a h => by
    rcases h with h | ⟨h, _⟩
    · exact .inr h
    · exact .inl h) (fun a h z => by
    rcases z with z | ⟨_, z, z2⟩
    · exact ok.mn a (ok.inM h) z
    · exact h.elim z z2), RepL.mono (fun _ _ h => h) (fun a o n e => ⟨e, fun z => n (hL a z)⟩) _ _ r, hn, ?_⟩
  -- what the caller sees behind the call
  have back : ∀ {lc : Lc} {mu' : List MO}, Step ⟨l.al, fun a => a ∈ l.al ∨ IsT K a, l.H⟩ lc → Fok K g.CR (hidN K g l) lc mu' →
      ∃ l', l'.H = lc.H ∧ l'.al = lc.al ∧ Step l l' ∧ Sok K g l' ⟨s.env, mu'⟩ σ ∧ ∀ a, g.L l' a → Gx.L ⟨g.CR, hidN K g l, W0⟩ lc a := by
    intro lc mu' st fo
    have stM : ∀ a, lc.M a → l.M a ∨ l.H a = none := fun a h => by
      rcases st.new a h with h | h
      · exact .inl (ok.inM h)
      · exact .inr h
    have st' : Step l ⟨lc.al, fun a => lc.M a ∨ (l.M a ∧ a ∉ l.al ∧ ¬ IsT K a), lc.H⟩ := by
      refine ⟨st.pre, fun a h => ?_, fun a o n e => st.keep a o (fun z => n (ok.inM z)) e, st.dom⟩
      rcases h with h | ⟨h, _⟩
      · exact stM a h
      · exact .inl h
    have back2 : ∀ a, g.L ⟨lc.al, fun a => lc.M a ∨ (l.M a ∧ a ∉ l.al ∧ ¬ IsT K a), lc.H⟩ a → Gx.L ⟨g.CR, hidN K g l, W0⟩ lc a := fun a h => by
      rcases h with (h | h) | h
      · exact .inl h
      · exact .inr (.inr h)
      · exact .inr (.inl h)
    have nal : ∀ a, l.M a → a ∉ l.al → ¬ IsT K a → a ∉ lc.al := fun a h1 h2 h3 z => by
      rcases st.new a ((fo.iff a).mpr (.inl z)) with q | q
      · exact q.elim h2 h3
      · exact ok.there a (.inl h1) q
    refine ⟨⟨lc.al, fun a => lc.M a ∨ (l.M a ∧ a ∉ l.al ∧ ¬ IsT K a), lc.H⟩, rfl, rfl, st', ⟨ok.len, fun i v e => ?_, fun i xs e => ?_, ok.dis, fo.ok.mlen, fun n a m h1 h2 => ?_, fo.ok.nd, fun a h => .inl (fo.ok.alM a h), fun a h => ?_, fun a h => ?_, fun x hx => (fo.ok.tabs x hx).to (.inl (fo.ok.tabs x hx).M) (fo.ok.tabs x hx).al (fun _ q => q) fun c q n e => ⟨e, fun z => n (back2 c z)⟩⟩, back2⟩
    · obtain ⟨u, h1, h2⟩ := ok.env i v e
      exact ⟨u, h1, st'.rep h2⟩
    · obtain ⟨a, vs, h1, h2, h3, h4, h5⟩ := ok.own i xs e
      have h6 := ok.noT h4 fun ps z => by cases z
      exact ⟨a, vs, h1, .inr ⟨h2, h3, h6⟩, nal a h2 h3 h6, st.keep a _ (fun z => z.elim h3 h6) h4, st'.reps h5⟩
    · have q := fo.ok.mu n a m h1 h2
      have rp : ∀ x v, RepGL K ⟨g.CR, hidN K g l, W0⟩ lc x v → RepGL K g ⟨lc.al, fun a => lc.M a ∨ (l.M a ∧ a ∉ l.al ∧ ¬ IsT K a), lc.H⟩ x v := fun x v h => RepL.mono (fun _ _ h => h) (fun a o n e => ⟨e, fun z => n (back2 a z)⟩) x v h
      cases m with
      | lst xs => obtain ⟨vs, q1, q2⟩ := q; exact ⟨vs, q1, rp _ _ q2⟩
      | ins C ns xs => obtain ⟨dx, vs, q1, q2, q3⟩ := q; exact ⟨dx, vs, q1, q2, rp _ _ q3⟩
      | nst C ns xs => obtain ⟨dx, vs, q1, q2, q3⟩ := q; exact ⟨dx, vs, q1, q2, rp _ _ q3⟩
      | dic ns xs => obtain ⟨vs, q1, q2, q9, q3⟩ := q; exact ⟨vs, q1, q2, q9, rp _ _ q3⟩
    · rcases h with (h | ⟨h, _⟩) | h
      · exact fo.ok.there a (.inl h)
      · exact st.dom a (ok.there a (.inl h))
      · exact st.dom a (ok.there a (.inr h))
    · rcases h with h | ⟨h, _⟩
      · exact fun z => fo.ok.mn a h (.inl z)
      · exact ok.mn a h
  cases e : F ps s.mu with
  | bad => rw [e] at run; exact run
  | ok v mu =>
    rw [e] at run
    intro lc u st fo rv
    obtain ⟨l', e1, e2, st', ok', hb⟩ := back st fo
    have := run l' u st' ok' (by
      show Rep K g.CR l'.al (g.L l') l'.H v u
      rw [e1, e2]
      exact Rep.mono (fun _ _ h => h) (fun a o n e => ⟨e, fun z => n (hb a z)⟩) v u rv)
    rw [e1] at this
    exact this
  | exn ex mu =>
    rw [e] at run
    intro lc cls dd st fo rx
    obtain ⟨l', e1, e2, st', ok', hb⟩ := back st fo
    have := run l' cls dd st' ok' (by
      obtain ⟨C, ns, xs, us, h1, h2, h3, h4, h5⟩ := rx
      refine ⟨C, ns, xs, us, h1, h2, h3, ?_, ?_⟩
      · show RepL K g.CR l'.al (g.L l') l'.H xs us
        rw [e1, e2]
        exact RepL.mono (fun _ _ h => h) (fun a o n e => ⟨e, fun z => n (hb a z)⟩) _ _ h4
      · rcases h5 with h5 | ⟨d', h5, h6, h7⟩
        · exact .inl h5
        · exact .inr ⟨d', h5, fun z => h6 (hb _ z), by rw [e1]; exact h7⟩)
    rw [e1] at this
    exact this
end
end L3
namespace L3
open PySem PySem.Spec PyProof.Rows L2
def putN (f : Str) : List Str → List Str
  | [] => [f]
  | n :: ns => if n = f then n :: ns else n :: putN f ns
def putV {a : Type} (f : Str) (v : a) : List Str → List a → List a
  | n :: ns, x :: xs => if n = f then v :: xs else x :: putV f v ns xs
  | _, _ => [v]
def getV {a : Type} (f : Str) : List Str → List a → Option a
  | n :: ns, x :: xs => if n = f then some x else getV f ns xs
  | _, _ => none
theorem putF_zip {f : Str} {v : V} : ∀ {ns : List Str} {vs : List V}, ns.length = vs.length → L2.putF f v (ns.zip vs) = (putN f ns).zip (putV f v ns vs)
  | [], [], _ => rfl
  | n :: ns, x :: vs, h => by
    show (if n = f then (n, v) :: ns.zip vs else (n, x) :: L2.putF f v (ns.zip vs)) = (if n = f then n :: ns else n :: putN f ns).zip (if n = f then v :: vs else x :: putV f v ns vs)
    by_cases e : n = f
    · rw [if_pos e, if_pos e, if_pos e]; rfl
    · rw [if_neg e, if_neg e, if_neg e, putF_zip (by simpa using h)]; rfl
theorem put_len {a : Type} {f : Str} {v : a} : ∀ {ns : List Str} {vs : List a}, ns.length = vs.length → (putN f ns).length = (putV f v ns vs).length
  | [], [], _ => rfl
  | n :: ns, x :: vs, h => by
    show (if n = f then n :: ns else n :: putN f ns).length = (if n = f then v :: vs else x :: putV f v ns vs).length
    by_cases e : n = f
    · rw [if_pos e, if_pos e]; simpa using h
    · rw [if_neg e, if_neg e, List.length_cons, List.length_cons, put_len (by simpa using h)]
theorem lookup_zip {f : Str} : ∀ {ns : List Str} {vs : List V}, (ns.zip vs).lookup f = getV f ns vs
  | [], _ => by simp [getV]
  | n :: ns, [] => rfl
  | n :: ns, x :: vs => by
    show ((n, x) :: ns.zip vs).lookup f = if n = f then some x else getV f ns vs
    by_cases e : n = f
    · have hb : (f == n) = true := beq_iff_eq.mpr e.symm
      rw [if_pos e]; simp only [List.lookup, hb]
    · have hb : (f == n) = false := beq_eq_false_iff_ne.mpr (Ne.symm e)
      rw [if_neg e, ← lookup_zip]; simp only [List.lookup, hb]
section
variable {K : PySem.W.Frag} {CR : Addr} {al : List Addr} {L : Addr → Prop} {H : Hp} {f : Str}
theorem RepL.put {x : PV} {v : V} (hx : Rep K CR al L H x v) : ∀ {ns : List Str} {xs : List PV} {vs : List V}, RepL K CR al L H xs vs → RepL K CR al L H (putV f x ns xs) (putV f v ns vs)
  | [], xs, vs, h => ⟨v, [], rfl, hx, rfl⟩
  | n :: ns, [], vs, h => by
    cases (show vs = [] from h)
    exact ⟨v, [], rfl, hx, rfl⟩
  | n :: ns, y :: xs, vs, h => by
    obtain ⟨w, r, rfl, h1, h2⟩ := h
    show RepL K CR al L H (if n = f then x :: xs else y :: putV f x ns xs) (if n = f then v :: r else w :: putV f v ns r)
    by_cases e : n = f
    · rw [if_pos e, if_pos e]; exact ⟨v, r, rfl, hx, h2⟩
    · rw [if_neg e, if_neg e]; exact ⟨w, _, rfl, h1, RepL.put hx h2⟩
theorem RepL.getV {x : PV} : ∀ {ns : List Str} {xs : List PV} {vs : List V}, RepL K CR al L H xs vs → L3.getV f ns xs = some x → ∃ v, L3.getV f ns vs = some v ∧ Rep K CR al L H x v
  | [], xs, vs, h, e => by simp [L3.getV] at e
  | n :: ns, [], vs, h, e => by simp [L3.getV] at e
  | n :: ns, y :: xs, vs, h, e => by
    obtain ⟨w, r, rfl, h1, h2⟩ := h
    have e : (if n = f then some y else L3.getV f ns xs) = some x := e
    show ∃ v, (if n = f then some w else L3.getV f ns r) = some v ∧ _
    by_cases z : n = f
    · rw [if_pos z] at e ⊢
      cases e
      exact ⟨w, rfl, h1⟩
    · rw [if_neg z] at e ⊢
      exact RepL.getV h2 e
end
def insP (mu : List MO) : PV → Option (Addr × List Str × List PV)
  | .ptr n => (match mu[n]? with
    | some (.ins C ns xs) => some (C, ns, xs)
    | _ => none)
  | .obj C ns xs => some (C, ns, xs)
  | _ => none
@[simp] theorem insP_obj {mu : List MO} {C : Addr} {ns : List Str} {xs : List PV} : insP mu (.obj C ns xs) = some (C, ns, xs) := rfl
@[simp] theorem insP_ptr {mu : List MO} {n : Nat} : insP mu (.ptr n) = (match mu[n]? with | some (.ins C ns xs) => some (C, ns, xs) | _ => none) := rfl
@[simp] def fFld (cs : List Addr) (f : Str) : PV → S → R S PV := fun p s => match insP s.mu p with
  | some (C, ns, xs) => if C ∈ cs then optR (getV f ns xs) s else .bad
  | none => .bad
@[simp] def dFPut (cs : List Addr) (f : Str) (ob de : DE) : DS := fun s => (de s).bind fun v s1 => (ob s1).bind fun o s2 => match o with
  | .ptr n => (match s2.mu[n]? with
    | some (.ins C ns xs) => if C ∈ cs ∧ ns.length < 1000 then .ok .nx ⟨s2.env, s2.mu.set n (.ins C (putN f ns) (putV f v ns xs))⟩ else .bad
    | _ => .bad)
  | _ => .bad
abbrev sTop : Str := "own_top"
abbrev sBot : Str := "own_bottom"
structure ClsR (K : PySem.W.Frag) (CR : Addr) : Prop where
  cls : Cls K CR
  top : NoAttr K CR "own_top"
  bot : NoAttr K CR "own_bottom"
@[simp] def fTop : PV → S → R S PV := fun p s => match p with
  | .rat q => .ok (.int q.num) s
  | _ => .bad
@[simp] def fBot : PV → S → R S PV := fun p s => match p with
  | .rat q => .ok (.int q.den) s
  | _ => .bad
def ClsF (K : PySem.W.Frag) (cs : List Addr) (f : Str) : Prop := ∀ C ∈ cs, Cls K C ∧ NoAttr K C f
section
variable {X : Cx} {g : Gx} {a b c e tg iter elt o : Expr} {es ifs : List Expr} {da db dc de dob : DE} {dr : DA} {dl : DL} {pos : Pos} {k : Nat} {f C : Addr} {fd : FuncData} {ps : List Str} {F : DF} {x m : Str} {p apos : Pos}
theorem j_top (T : ClsR X.K g.CR) (he : JE X g e de) (hb : attributeBase e "own_top" X.env (eval e X.env) = eval e X.env := by rfl) : JE X g (.Attribute e "own_top" pos) (dUn fTop de) := PE.cq (pe_fld he hb) fun pins s σ H Q I q => by
  obtain ⟨l, s, rfl, ok, q⟩ := q
  refine ⟨l, s, rfl, ok, Run.mono (Run.bind q) fun u H1 ⟨l1, s1, v, e1, ok1, r1, st1, h1⟩ => ?_⟩
  subst e1
  cases v with
  | rat q =>
    obtain ⟨a, dx, rfl, n, h⟩ := r1
    exact ⟨a, g.CR, dx, _, _, rfl, h, T.cls, T.top, rfl, h1 l1 _ (Step.refl l1) ok1 rfl⟩
  | _ => exact h1.elim
theorem j_bot (T : ClsR X.K g.CR) (he : JE X g e de) (hb : attributeBase e "own_bottom" X.env (eval e X.env) = eval e X.env := by rfl) : JE X g (.Attribute e "own_bottom" pos) (dUn fBot de) := PE.cq (pe_fld he hb) fun pins s σ H Q I q => by
  obtain ⟨l, s, rfl, ok, q⟩ := q
  refine ⟨l, s, rfl, ok, Run.mono (Run.bind q) fun u H1 ⟨l1, s1, v, e1, ok1, r1, st1, h1⟩ => ?_⟩
  subst e1
  cases v with
  | rat q =>
    obtain ⟨a, dx, rfl, n, h⟩ := r1
    exact ⟨a, g.CR, dx, _, _, rfl, h, T.cls, T.bot, rfl, h1 l1 _ (Step.refl l1) ok1 rfl⟩
  | _ => exact h1.elim
/-- o.f = e -/
theorem js_fput {cs : List Addr} {fl : Str} {p2 : Pos} (T : ClsF X.K cs fl) (ho : JE X g o dob) (he : JE X g e de) (hs : swapsWith e (some (.Attribute o fl p2)) pos.line X.env = pure false := by rfl) : JS X g (.Assign [.Attribute o fl p2] e pos) (dFPut cs fl dob de) :=
  PS.cq (ps_fld ho he hs) fun pins s D σ H I q => by
    obtain ⟨l, s, rfl, ok, q⟩ := q
    refine ⟨l, s, rfl, ok, Run.mono (Run.bindS q) fun u H1 ⟨l1, s1, v, e1, ok1, r1, st1, h1⟩ => ?_⟩
    refine ⟨l1, s1, e1, ok1, Run.mono (Run.bindS h1) fun w H2 ⟨l2, s2, y, e2, ok2, r2, st2, h2⟩ => ?_⟩
    subst e2
    cases y with
    | ptr n =>
      simp only at h2
      cases e3 : s2.mu[n]? with
      | none => rw [e3] at h2; exact h2.elim
      | some z =>
        rw [e3] at h2
        cases z with
        | lst xs => exact h2.elim
        | dic ks xs => exact h2.elim
        | nst c ks xs => exact h2.elim
        | ins C ns xs =>
          simp only at h2
          by_cases hc : C ∈ cs ∧ ns.length < 1000
          · rw [if_pos hc] at h2
            obtain ⟨a, ha, rfl⟩ := r2
            obtain ⟨dx, vs, h3, h4, h5⟩ := ok2.mu n a _ ha e3
            refine ⟨a, C, dx, _, rfl, h3, (T C hc.1).1, (T C hc.1).2, by rw [List.length_zip, ← h4]; have := hc.2; omega, ?_⟩
            have hM : l2.M a := ok2.alM a (List.mem_of_getElem? ha)
            have st := Step.at_ hM (.ins C dx (L2.putF fl u (ns.zip vs)))
            exact h2 _ σ st (ok2.muSet ha fun l' e1 e2 e3 => ⟨dx, putV fl u ns vs, by rw [e3, upd_same, putF_zip h4], put_len (a := V) h4, by
              have q := RepL.put (f := fl) (ns := ns) (st.rep (st2.rep r1)) (st.reps h5)
              show RepL X.K g.CR l'.al (g.L l') l'.H _ _
              have el : l' = ⟨l2.al, l2.M, upd l2.H a (.ins C dx (L2.putF fl u (ns.zip vs)))⟩ := by
                obtain ⟨x1, x2, x3⟩ := l'
                cases e1; cases e2; cases e3; rfl
              rw [el]
              exact q⟩)
          · rw [if_neg hc] at h2
            exact h2.elim
    | _ => exact h2.elim
end
inductive TP where
  | non | bl | int | str | tup | lst | rat | cls (C : Addr) | dct | nam (c : Str)
def TP.val (K : PySem.W.Frag) (CR : Addr) : TP → Value
  | .non => .type "NoneType" | .bl => .type "bool" | .int => .type "int" | .str => .type "str" | .tup => .type "tuple" | .lst => .type "list" | .rat => .ref CR | .cls C => .ref C | .dct => .type "dict" | .nam c => .ref (He.ga K c)
@[simp] def tpOf (mu : List MO) : PV → Option TP
  | .non => some .non | .bl _ => some .bl | .int _ => some .int | .str _ => some .str | .tup _ => some .tup | .lst _ => some .lst | .frz _ => some .lst | .rat _ => some .rat
  | .obj C _ _ => some (.cls C)
  | .ptr n => (match mu[n]? with
    | some (.lst _) => some .lst
    | some (.ins C _ _) => some (.cls C)
    | some (.dic _ _) => none
    | some (.nst c _ _) => some (.nam c)
    | none => none)
  | .adr _ => none | .ty _ => none
  | .dk _ _ => some .dct | .dt _ _ => none | .exc _ _ _ => none | .clo _ _ => none
/-- what a class must have for isinstance -/
structure ClsI (K : PySem.W.Frag) (C : Addr) : Prop where
  cls : Cls K C
  ha : PySem.W.findIn K (.ref C) "__class__" = some (some (.builtin "object.__class__"))
  hm : PySem.W.mroIn K C (.type "object") = some true
structure KIsi (K : PySem.W.Frag) : Prop where
  hn : PySem.W.specialIn K (.builtin "object.__class__") "__get__" = some (some (.builtin "getset_descriptor.__get__"))
  htk : PySem.W.takesIn K (.builtin "object.__class__") = some true
/-- the answers for one class u, at the types that b knows -/
def IsiK (K : PySem.W.Frag) (CR : Addr) (u : Value) (b : TP → Option Bool) : Prop := ∀ tp r, b tp = some r → PySem.W.kitOne K (tp.val K CR) u = some r ∧ ∀ C, (tp = .cls C ∨ (tp = .rat ∧ C = CR) ∨ ∃ c, tp = .nam c ∧ C = He.ga K c) → ClsI K C
@[simp] def fIsi (b : TP → Option Bool) : PV → S → R S PV := fun p s => match tpOf s.mu p with
  | some t => (match b t with
    | some r => .ok (.bl r) s
    | none => .bad)
  | none => .bad
theorem tp_ok {K : PySem.W.Frag} {g : Gx} {l : Lc} {s : S} {σ : St} {p : PV} {x : V} {t : TP} (kk : KIsi K) (ok : Sok K g l s σ) (r : RepG K g l p x) (h : tpOf s.mu p = some t) (hc : ∀ C, (t = .cls C ∨ (t = .rat ∧ C = g.CR) ∨ ∃ c, t = .nam c ∧ C = He.ga K c) → ClsI K C) : TyX K l.H x (t.val K g.CR) := by
  cases p with
  | non => cases h; rw [show x = .non from r]; exact .base .non
  | bl b => cases h; rw [show x = .bl b from r]; exact .base (.bl b)
  | int i => cases h; rw [show x = .int i from r]; exact .base (.int i)
  | str y => cases h; rw [show x = .str y from r]; exact .base (.str y)
  | rat q =>
    cases h
    obtain ⟨a, dx, rfl, n, h⟩ := r
    have c := hc g.CR (.inr (.inl ⟨rfl, rfl⟩))
    exact .base (.ins h c.cls c.ha kk.hn kk.htk c.hm)
  | tup xs =>
    cases h
    obtain ⟨a, vs, rfl, (⟨_, h | ⟨u, h⟩⟩ | ⟨o, its, n, h, hc', _⟩), _⟩ := r
    · exact .base (.tup h)
    · exact .fTuple h
    · exact .kTuple h hc'
  | lst xs =>
    cases h
    obtain ⟨a, vs, rfl, _, h, _⟩ := r
    exact .base (.lst h)
  | frz xs =>
    cases h
    obtain ⟨a, vs, rfl, (⟨_, h | ⟨u, h⟩⟩ | ⟨o, its, n, h, hc', _⟩), _⟩ := r
    · exact .base (.lst h)
    · exact .base (.frz h)
    · exact .kList h hc'
  | obj C ns xs =>
    cases h
    obtain ⟨a, dx, vs, rfl, n, h, _⟩ := r
    have c := hc C (.inl rfl)
    exact .base (.ins h c.cls c.ha kk.hn kk.htk c.hm)
  | ptr n =>
    obtain ⟨a, ha, rfl⟩ := r
    simp only [tpOf] at h
    cases e : s.mu[n]? with
    | none => rw [e] at h; cases h
    | some m =>
      rw [e] at h
      cases m with
      | lst ys =>
        cases h
        obtain ⟨vs, h1, h2⟩ := ok.mu n a _ ha e
        exact .base (.lst h1)
      | dic ks ys => cases h
      | nst cn ks ys =>
        cases h
        obtain ⟨dx, vs, h1, h2, h3⟩ := ok.mu n a _ ha e
        have c := hc (He.ga K cn) (.inr (.inr ⟨cn, rfl, rfl⟩))
        exact .base (.ins h1 c.cls c.ha kk.hn kk.htk c.hm)
      | ins C ns ys =>
        cases h
        obtain ⟨dx, vs, h1, h2, h3⟩ := ok.mu n a _ ha e
        have c := hc C (.inl rfl)
        exact .base (.ins h1 c.cls c.ha kk.hn kk.htk c.hm)
  | adr a => cases h
  | ty n => cases h
  | dk ks xs =>
    cases h
    obtain ⟨a, vs, rfl, n, h, _⟩ := r
    rcases h with h | ⟨u, h⟩
    · exact .base (.dK h)
    · exact .fDict h
  | dt ks xs => cases h
  | exc C ns xs => cases h
  | clo t xs => cases h
section
variable {X : Cx} {g : Gx} {a b c e tg iter elt o : Expr} {es ifs : List Expr} {da db dc de dob : DE} {dr : DA} {dl : DL} {pos : Pos} {k : Nat} {f C : Addr} {fd : FuncData} {ps : List Str} {F : DF} {x m : Str} {p apos : Pos}
/-- isinstance(e, c), one class -/
theorem j_isi {cv : V} {cu : Value} {bb : TP → Option Bool} (kk : KIsi X.K) (T : IsiK X.K g.CR cu bb) (hcv : ClsV cv cu) (ha : JE X g a da) (hc : PE X c (tC cv)) (hg : Gl X "isinstance") (hm : X.mg "isinstance" = none)
    (h1 : starEach [a, c] X.env = (false, eval a X.env) :: starEach [c] X.env := by rfl) (h2 : starEach [c] X.env = (false, eval c X.env) :: starEach [] X.env := by rfl) (hpl : (backTo pos (starEach [c] X.env)).any (·.1) = false := by rfl) :
    JE X g (.Call (.Name "isinstance" p) [a, c] [] pos) (dUn (fIsi bb) da) :=
  PE.cq (pe_callB call_isi hg hm (by decide +kernel) (pa_cons ha (pa_cons hc pa_nil h2) h1) (by decide) (by decide) h1 hpl) fun pins s σ H Q I q => by
    obtain ⟨l, s, rfl, ok, q⟩ := q
    refine ⟨l, s, rfl, ok, Run.mono (Run.bind q) fun u H1 ⟨l1, s1, v, e1, ok1, r1, st1, h3⟩ => ?_⟩
    subst e1
    simp only [fIsi] at h3
    cases e2 : tpOf s1.mu v with
    | none => rw [e2] at h3; exact h3.elim
    | some t =>
      rw [e2] at h3
      simp only at h3
      cases e3 : bb t with
      | none => rw [e3] at h3; exact h3.elim
      | some r =>
        rw [e3] at h3
        obtain ⟨k1, k2⟩ := T t r e3
        exact ⟨u, cv, _, cu, r, rfl, hcv, tp_ok kk ok1 r1 e2 k2, k1, h3 l1 _ (Step.refl l1) ok1 rfl⟩
end
end L3
namespace L3
open PySem PySem.Spec PyProof.Rows L2
/-- C(e, ..) by __init__'s promise -/
theorem makeG {CX : CXT} {k : Nat} {f C : Addr} {fd : FuncData} {ps : List Str} {sp : Sp} {dvs : List V} {ds : List Value} {E : XK} {X : Cx} {pins : List (Addr × Obj)} {σ : St} {H : Hp} {s : Shared} {Q : VK} {us : List Value} {vs : List V} (M : Mk X.K C f)
    (F : FnG X.prog X.w X.K X.mg X.base CX k f fd ps sp) (hr : Room (k + 1) X.A) (hb : Binds X.K fd ps ds) (hd : Vals dvs ds) (hx : Passes CX X E) (I : Inv X pins σ H s) (r : Vals vs us)
    (h : ∀ x dx, H x = none → H dx = none → dx ≠ x → sp (.ref x :: (vs ++ dvs)) (upd (upd H dx (.own x)) x (.ins C dx [])) (fun v H2 => v = .non ∧ Q (.ref x) H2) E) :
    wpAny (model X.prog X.w) X.A (call (.ref C) us) (EP X pins σ Q) X.xe s := by
  let n := s.heap.objs.size
  have q1 := h (n + 1) n (I.hok.fresh (Nat.le_succ _)) (I.hok.fresh (Nat.le_refl _)) (Nat.ne_of_lt (Nat.lt_succ_self _))
  have J := Inv.made (C := C) I
  have rr : Vals (V.ref (n + 1) :: (vs ++ dvs)) (Value.ref (n + 1) :: (us ++ ds)) := .cons rfl (r.append hd)
  have hl : (Value.ref (n + 1) :: us ++ ds).length = ps.length := rr.length.symm.trans (F.len _ _ _ _ q1)
  refine wpAny_call (make_map (f := f) I.kIn M.makes M.init (beq_iff_eq.mp M.fn) (codeAny_mono (F.run _ X.stack _ _ ⟨Value.ref (n + 1) :: us, []⟩ _ _ _ E (hr.make C us []) (J.env0.make C us []) (hb _ (Value.ref (n + 1) :: us) J.kIn hl) rr q1) fun r s' z => ?_))
  match r, z with
  | .error e, z => exact hx pins σ _ _ e s' J z
  | .ok (.ret u), z =>
    obtain ⟨v, H', I3, rv, rfl, q3⟩ := J.after z
    exact ⟨rv, ⟨V.ref (n + 1), H', I3, rfl, q3⟩⟩
  | .ok .next, z => exact False.elim z
  | .ok .brk, z => exact False.elim z
  | .ok .cont, z => exact False.elim z
/-- o.f, a property, by the getter's promise -/
theorem propG {CX : CXT} {k : Nat} {f : Str} {C p gA a dx : Addr} {fs : List (Str × V)} {fd : FuncData} {ps : List Str} {sp : Sp} {dvs : List V} {ds : List Value} {E : XK} {X : Cx} {pins : List (Addr × Obj)} {σ : St} {H : Hp} {s : Shared} {Q : VK} {b : Bool} {E' : Value → Shared → Prop}
    (I : Inv X pins σ H s) (ea : H a = some (.ins C dx fs)) (c : Cls X.K C) (hp : PropOf X.K C f p gA) (F : FnG X.prog X.w X.K X.mg X.base CX k gA fd ps sp) (hr : Room (k + 1) X.A) (hb : Binds X.K fd ps ds) (hd : Vals dvs ds)
    (hx : ∀ (s : Shared) (e : Value) (s' : Shared), Inv X pins σ H s → CX X.stack H s E e s' → False) (h : sp (.ref a :: dvs) H Q E) : wpAny (model X.prog X.w) X.A (getAttr (.ref a) f b) (EP X pins σ Q) E' s := by
  obtain ⟨rest, hrec⟩ := hp.rec_
  obtain ⟨mA, O, _⟩ := ins_get I.hok ea
  obtain ⟨od, J, _⟩ := O.look
  have I1 := I.tok (s.toks + 1)
  have hl : ([Value.ref a] ++ ds).length = ps.length := (congrArg (· + 1) hd.length).symm.trans (F.len _ _ _ _ h)
  have hc : (PySem.W.clsIn X.K C).isSome = true := by
    obtain ⟨cd, e, _⟩ := PySem.W.any_some c.hd
    rw [e]; rfl
  have g1 := PySem.W.plainGet_of (c.get f)
  refine PySem.W.get_bind I.kIn J g1.1 (PySem.W.findObj_data hc hp.at_ hp.get hp.tak) g1.2 (wpAny_call (PySem.W.prop_get (s := { s with toks := s.toks + 1 }) I.kIn hrec ?_))
  refine codeAny_mono (F.run X.A.in1 X.stack _ H ⟨[.ref a], []⟩ (.ref a :: ds) (.ref a :: dvs) Q E hr.in1 I1.env0.in1 (hb _ [.ref a] I1.kIn hl) (.cons rfl hd) h) fun r s' z => ?_
  match r, z with
  | .error er, z => exact (hx _ er s' I1 z).elim
  | .ok (.ret u), z =>
    obtain ⟨v, H', I3, rv, q3⟩ := I1.after z
    show wpAny _ _ (handedOut u) _ _ _
    rw [PySem.W.handedOut_of (handed_of rv)]
    exact wpAny_pure ⟨v, H', I3, rv, q3⟩
  | .ok .next, z => exact False.elim z
  | .ok .brk, z => exact False.elim z
  | .ok .cont, z => exact False.elim z
/-- how many arguments -/
def Ln (d : DA) (n : Nat) : Prop := ∀ s vs s', d s = .ok vs s' → vs.length = n
theorem Ln.nil : Ln dNil 0 := fun s vs s' h => by cases h; rfl
theorem Ln.cons {a : DE} {r : DA} {n : Nat} (h : Ln r n) : Ln (dCons a r) (n + 1) := fun s vs s' e => by
  simp only [dCons] at e
  cases e1 : a s with
  | bad => rw [e1] at e; cases e
  | exn x t => rw [e1] at e; cases e
  | ok v t =>
    rw [e1] at e
    have e : (r t).bind (fun xs s2 => R.ok (v :: xs) s2) = .ok vs s' := e
    cases e2 : r t with
    | bad => rw [e2] at e; cases e
    | exn x t => rw [e2] at e; cases e
    | ok us t2 =>
      rw [e2] at e
      cases e
      rw [List.length_cons, h _ _ _ e2]
@[simp] def fnS (F : DF) : List PV → S → R S PV := fun ps s => match F ps s.mu with
  | .ok v mu => .ok v ⟨s.env, mu⟩
  | .exn e mu => .exn e ⟨s.env, mu⟩
  | .bad => .bad
/-- a callee's exceptions are not looked at -/
@[simp] def fnQ (F : DF) : List PV → S → R S PV := fun ps s => match F ps s.mu with
  | .ok v mu => .ok v ⟨s.env, mu⟩
  | _ => .bad
theorem quiet_asks {K : PySem.W.Frag} {g : Gx} {l : Lc} {s : S} {σ : St} {ps : List PV} {us : List V} {Q : VK} {F : DF} {n : Nat} (ok : Sok K g l s σ) (r : RepGL K g l ps us) (hn : ps.length = n) (run : Run K g (fnQ F ps s) l σ Q) :
    spJ K g.CR n F us l.H Q (fun _ _ _ => False) := by
  have q : Run K ⟨g.CR, g.N, W0⟩ (match F ps s.mu with | .ok v mu => .ok v ⟨s.env, mu⟩ | .exn e mu => .exn e ⟨s.env, mu⟩ | .bad => .bad) l σ Q := by
    simp only [fnQ] at run
    cases e : F ps s.mu with
    | bad => rw [e] at run; exact run
    | exn x t => rw [e] at run; exact run.elim
    | ok v t =>
      rw [e] at run
      exact fun l' u a ok' rp => run l' u a (ok'.frame rfl rfl) rp
  exact call_asks (g := ⟨g.CR, g.N, W0⟩) (ok.frame rfl rfl) r hn q
/-- a new ratio -/
def FInit (CR : Addr) (okb : Int → Int → Bool) : DF := fun ps mu => match ps with
  | [.ptr n, .int t, .int b] => (match mu[n]? with
    | some (.ins C ns xs) => if C = CR ∧ ns = [] ∧ b ≠ 0 ∧ okb t b = true then .ok .non (mu.set n (.ins CR [sTop, sBot] [.int (Rat.divInt t b).num, .int (Rat.divInt t b).den])) else .bad
    | _ => .bad)
  | _ => .bad
@[simp] def fMakeR (okb : Int → Int → Bool) : List PV → S → R S PV := fun ps s => match ps with
  | [.int t, .int b] => if b ≠ 0 ∧ okb t b = true then .ok (.rat (Rat.divInt t b)) s else .bad
  | [.int t] => if okb t 1 = true then .ok (.rat (Rat.divInt t 1)) s else .bad
  | _ => .bad
section
variable {X : Cx} {g : Gx} {a b c e tg iter elt o : Expr} {es ifs : List Expr} {da db dc de dob : DE} {dr : DA} {dl : DL} {pos : Pos} {k : Nat} {f C : Addr} {fd : FuncData} {ps : List Str} {F : DF} {x m : Str} {p apos : Pos}
/-- all stays but tables of code objects -/
theorem Sok.growT {K : PySem.W.Frag} {g : Gx} {l l' : Lc} {s : S} {σ : St} (ok : Sok K g l s σ) (ea : l'.al = l.al) (eM : l'.M = l.M) (k : ∀ a o, ¬ IsT K a → l.H a = some o → l'.H a = some o) (tb : ∀ x ∈ TK K, TabI K g l' x) : Step l l' ∧ Sok K g l' s σ := by
  have dm : ∀ a, l.H a ≠ none → l'.H a ≠ none := fun a h => by
    by_cases z : IsT K a
    · obtain ⟨x, hx, e⟩ := z
      rw [e]
      exact (tb x hx).there
    · cases q : l.H a with
      | none => exact absurd q h
      | some o => rw [k a o z q]; simp
  have st : Step l l' := ⟨⟨[], by simp [ea]⟩, fun a h => .inl (by rw [← eM]; exact h), fun a o n h => k a o (fun z => n (ok.inM (.inr z))) h, dm⟩
  have nal : ∀ (n : Nat) a, l.al[n]? = some a → ¬ IsT K a := fun n a h ⟨x, hx, e⟩ => (ok.tabs x hx).al (by rw [← e]; exact List.mem_of_getElem? h)
  refine ⟨st, ok.len, fun i v e => ?_, fun i xs e => ?_, ok.dis, by rw [ea]; exact ok.mlen, fun n a m h1 h2 => ?_, by rw [ea]; exact ok.nd, by rw [ea, eM]; exact ok.alM, fun a h => dm a (ok.there a (by rw [← eM]; exact h)), by rw [eM]; exact ok.mn, tb⟩
  · obtain ⟨u, h1, h2⟩ := ok.env i v e
    exact ⟨u, h1, st.rep h2⟩
  · obtain ⟨a, vs, h1, h2, h3, h4, h5⟩ := ok.own i xs e
    exact ⟨a, vs, h1, by rw [eM]; exact h2, by rw [ea]; exact h3, k _ _ (ok.noT h4 fun ps z => by cases z) h4, st.reps h5⟩
  · rw [ea] at h1
    have q := ok.mu n a m h1 h2
    have nt := nal n a h1
    cases m with
    | lst xs =>
      obtain ⟨vs, q1, q2⟩ := q
      exact ⟨vs, k _ _ nt q1, st.reps q2⟩
    | ins C ns xs =>
      obtain ⟨dx, vs, q1, q2, q3⟩ := q
      exact ⟨dx, vs, k _ _ nt q1, q2, st.reps q3⟩
    | nst C ns xs =>
      obtain ⟨dx, vs, q1, q2, q3⟩ := q
      exact ⟨dx, vs, k _ _ nt q1, q2, st.reps q3⟩
    | dic ns xs =>
      obtain ⟨vs, q1, q2, q9, q3⟩ := q
      exact ⟨vs, k _ _ nt q1, q2, q9, st.reps q3⟩
/-- a code object in a table -/
def InT (K : PySem.W.Frag) (l : Lc) (a : Addr) : Prop := ∃ x ∈ TK K, ∃ (ps : Array Value) (pos : Pos), l.H (tA K x) = some (.tbl ps) ∧ codeAmong pos ps.toList = some (.ref a)
theorem Sok.inT {K : PySem.W.Frag} {g : Gx} {l : Lc} {s : S} {σ : St} (ok : Sok K g l s σ) {a : Addr} (h : InT K l a) : ¬ g.L l a := by
  obtain ⟨x, hx, ps, pos, h1, h2⟩ := h
  obtain ⟨ps', e1, _, e3⟩ := (ok.tabs x hx).is
  rw [h1] at e1
  cases e1
  obtain ⟨c, e, n, _⟩ := e3 pos _ h2
  cases e
  exact n
/-- what a new ratio's __init__ is asked -/
theorem make_asks {okb : Int → Int → Bool} {l : Lc} {s : S} {σ : St} {t b : Int} {Q : VK} {E : XK} (ok : Sok X.K g l s σ) (run : Run X.K g (.ok (.rat (Rat.divInt t b)) s) l σ Q) (hb : b ≠ 0) (ho : okb t b = true) (x dx : Addr) (hx : l.H x = none) (hd : l.H dx = none) (hn : dx ≠ x) :
    spJ X.K g.CR 3 (FInit g.CR okb) [.ref x, .int t, .int b] (upd (upd l.H dx (.own x)) x (.ins g.CR dx [])) (fun v H2 => v = .non ∧ Q (.ref x) H2) E := by
  have kept : ∀ a o, l.H a = some o → upd (upd l.H dx (.own x)) x (.ins g.CR dx []) a = some o := fun a o h => by
    rw [upd_ne (ne_of_none h hx), upd_ne (ne_of_none h hd)]; exact h
  obtain ⟨H1, eH⟩ : ∃ H1, H1 = upd (upd l.H dx (.own x)) x (.ins g.CR dx []) := ⟨_, rfl⟩
  rw [← eH] at kept ⊢
  have H1x : H1 x = some (.ins g.CR dx []) := by rw [eH, upd_same]
  have nTx : ¬ IsT X.K x := fun ⟨y, hy, e⟩ => (ok.tabs y hy).ne0 hx e.symm
  refine ⟨fun a => a ≠ x ∧ ¬ IsT X.K a ∧ ¬ InT X.K l a ∧ H1 a ≠ none, ⟨[x], fun a => a = x ∨ IsT X.K a, H1⟩, [.ptr 0, .int t, .int b], [.ins g.CR [] []], rfl, ⟨fun a => by simp, ?_⟩, ?_, rfl, ?_⟩
  · refine ⟨rfl, fun i v e => by simp at e, fun i v e => by simp at e, fun i j xs ys a _ e => by simp at e, rfl, fun n a m h1 h2 => ?_, by simp, fun a h => .inl (by simpa using h), fun a h => ?_, fun a h z => h.elim z.1 z.2.1, fun y hy => ?_⟩
    · cases n with
      | zero =>
        cases h1
        cases h2
        exact ⟨dx, [], H1x, rfl, rfl⟩
      | succ n => simp at h1
    · rcases h with (h | ⟨y, hy, h⟩) | h
      · rw [h]
        show H1 x ≠ none
        rw [H1x]; simp
      · obtain ⟨ps, e1, _⟩ := (ok.tabs y hy).is
        rw [h]
        show H1 _ ≠ none
        rw [kept _ _ e1]; simp
      · exact h.2.2.2
    · obtain ⟨ps, e1, e2, e3⟩ := (ok.tabs y hy).is
      refine ⟨.inr ⟨y, hy, rfl⟩, fun z => nTx ⟨y, hy, (List.mem_singleton.mp z).symm⟩, ps, kept _ _ e1, e2, fun pos cv e => ?_⟩
      obtain ⟨c, f1, f2, f3⟩ := e3 pos cv e
      refine ⟨c, f1, fun z => ?_, kept _ _ f3⟩
      rcases z with (z | z) | z
      · rw [z, hx] at f3; cases f3
      · exact ok.noT f3 (LamX.codeO_ne ·) z
      · exact z.2.2.1 ⟨y, hy, ps, pos, e1, by rw [e, f1]⟩
  · exact ⟨.ref x, _, rfl, ⟨x, rfl, rfl⟩, .int t, _, rfl, rfl, .int b, _, rfl, rfl, rfl⟩
  · show (match FInit g.CR okb [.ptr 0, .int t, .int b] [.ins g.CR [] []] with | .ok v mu' => _ | .exn e mu' => _ | .bad => _)
    have e0 : FInit g.CR okb [.ptr 0, .int t, .int b] [.ins g.CR [] []] = .ok .non [.ins g.CR [sTop, sBot] [.int (Rat.divInt t b).num, .int (Rat.divInt t b).den]] := by
      unfold FInit
      simp [hb, ho]
    rw [e0]
    intro lc u st fo rv
    refine ⟨rv, ?_⟩
    obtain ⟨dx', vs, h1, h2, h3⟩ : MoRep X.K _ lc x (.ins g.CR [sTop, sBot] [.int (Rat.divInt t b).num, .int (Rat.divInt t b).den]) := fo.ok.mu 0 x _ (st.al 0 x rfl) rfl
    have hall : ∀ a o, ¬ IsT X.K a → l.H a = some o → lc.H a = some o := fun a o nt h => st.keep a o (fun z => z.elim (ne_of_none h hx) nt) (kept a o h)
    have xM : lc.M x := fo.ok.alM x (List.mem_of_getElem? (st.al 0 x rfl))
    obtain ⟨st', ok'⟩ := ok.growT (l' := ⟨l.al, l.M, lc.H⟩) rfl rfl hall fun y hy => by
      obtain ⟨ps, e1, e2, e3⟩ := (fo.ok.tabs y hy).is
      refine ⟨(ok.tabs y hy).M, (ok.tabs y hy).al, ps, e1, e2, fun pos cv e => ?_⟩
      obtain ⟨c, f1, f2, f3⟩ := e3 pos cv e
      refine ⟨c, f1, fun z => ?_, f3⟩
      have z : g.L l c := z
      refine f2 (.inr ⟨fun y => f2 (.inl (by rw [y]; exact xM)), fun y => f2 (.inl (fo.ok.inM (.inr y))), fun y => ok.inT y z, ?_⟩)
      have := ok.there c z
      cases q : l.H c with
      | none => exact absurd q this
      | some o => rw [kept c o q]; simp
    refine run ⟨l.al, l.M, lc.H⟩ _ st' ok' ⟨x, dx', rfl, ok.fresh hx, ?_⟩
    show lc.H x = _
    rw [h1]
    obtain ⟨v1, r1, rfl, e1, v2, r2, rfl, e2, e3⟩ := h3
    cases (show r2 = [] from e3)
    rw [show v1 = .int _ from e1, show v2 = .int _ from e2] <;> rfl
/-- Ratio(t), Ratio(t, b) -/
theorem c_makeR {okb : Int → Int → Bool} {one : Value} (M : Mk X.K g.CR f) (G : FJ X.prog X.w X.K X.mg X.base g.CR k f fd ["self", "top", "bottom"] (FInit g.CR okb)) (hr : Room (k + 1) X.A) (hb : Binds X.K fd ["self", "top", "bottom"] []) (hb1 : Binds X.K fd ["self", "top", "bottom"] [one]) (h1 : RelV (.int 1) one) :
    CJ X g (fun us => call (.ref g.CR) us) (fMakeR okb) := by
  intro pins s σ xs vs Q l st ps I rv ok rp run
  have hx : Passes (L2.CX X.prog X.w) X (fun _ _ _ => False) := fun pins σ H s e s' I c => by
    obtain ⟨_, _, _, _, _, _, _, _, _, _, _, _, z⟩ := c
    exact z.elim
  simp only [fMakeR] at run
  split at run
  · rename_i t b
    obtain ⟨v1, r, rfl, q1, v2, r2, rfl, q2, q3⟩ := rp
    cases (show r2 = [] from q3)
    split at run
    · rename_i z
      refine makeG M G hr hb .nil hx I rv fun y dx hy hd hn => ?_
      rw [show v1 = .int t from q1, show v2 = .int b from q2]
      exact make_asks ok run z.1 z.2 y dx hy hd hn
    · exact run.elim
  · rename_i t
    obtain ⟨v1, r, rfl, q1, q3⟩ := rp
    cases (show r = [] from q3)
    split at run
    · rename_i z
      refine makeG M G hr hb1 (.cons h1 .nil) hx I rv fun y dx hy hd hn => ?_
      rw [show v1 = .int t from q1]
      exact make_asks ok run (by decide) z y dx hy hd hn
    · exact run.elim
  · exact run.elim
/-- f(e, ..), f a value that is known -/
theorem j_callG {u : Value} {fn : List PV → S → R S PV} (hc : CJ X g (fun us => call u us) fn) (hg : Gl X x) (hm : X.mg x = some u) (hk : PySem.W.keepIn X.K u = true) (ha : JA X g (e :: es) dr)
    (hdb : (x == ("__debug__" : Str)) = false := by decide) (he : starEach (e :: es) X.env = (false, eval e X.env) :: starEach es X.env := by rfl) (hpl : (backTo pos (starEach es X.env)).any (·.1) = false := by rfl) :
    JE X g (.Call (.Name x p) (e :: es) [] pos) (dFn fn dr) := by
  refine ⟨fun pins s σ H Q I h => ?_⟩
  obtain ⟨l, st, rfl, ok, h⟩ := h
  refine wpAny_Call_Name_kw (ld_glob I hg hm ?_ hdb)
  refine PySem.W.callWith_K (h₀ := X.base) I.ok.mod.kin hk (thn (ha.run pos pins s σ _ _ I ⟨l, st, rfl, ok, RunA.bind h⟩) fun us s1 ⟨vs, H1, I1, r, l1, s1', ps, e1, ok1, rp, st1, h1⟩ => ⟨I1.kIn, ?_⟩) he hpl
  subst e1
  exact hc pins s1 σ vs us Q l1 s1' ps I1 r ok1 rp h1
/-- a def of the text by its value -/
def KJ (X : Cx) (g : Gx) (f : Addr) (fn : List PV → S → R S PV) : Prop :=
  ∀ (pins : List (Addr × Obj)) (s : Shared) (σ : St) (xs : List V) (vs : List Value) (Q : VK) (l : Lc) (st : S) (ps : List PV), Inv X pins σ l.H s → Vals xs vs → Sok X.K g l st σ → RepGL X.K g l ps xs →
    Run X.K g (fn ps st) l σ Q → codeAny (model X.prog X.w) X.A (.call (.ref f) ⟨vs, []⟩) (fun r s' => match r with | .ok (.ret v) => EP X pins σ Q v s' | .ok _ => False | .error e => X.xe e s') s
theorem KJ.cj {fn : List PV → S → R S PV} (h : KJ X g f fn) : CJ X g (fun us => call (.ref f) us) fn := fun pins s σ xs vs Q l st ps I rv ok rp run => wpAny_call (h pins s σ xs vs Q l st ps I rv ok rp run)
/-- the same, deeper in -/
def KA (X : Cx) (g : Gx) (k : Nat) (f : Addr) (fn : List PV → S → R S PV) : Prop :=
  ∀ (A : Around), Sub X k A → ∀ (pins : List (Addr × Obj)) (s : Shared) (σ : St) (xs : List V) (vs : List Value) (Q : VK) (l : Lc) (st : S) (ps : List PV), Inv X pins σ l.H s → Vals xs vs → Sok X.K g l st σ → RepGL X.K g l ps xs →
    Run X.K g (fn ps st) l σ Q → codeAny (model X.prog X.w) A (.call (.ref f) ⟨vs, []⟩) (fun r s' => match r with | .ok (.ret v) => EP X pins σ Q v s' | .ok _ => False | .error e => X.xe e s') s
theorem KA.kj {fn : List PV → S → R S PV} (h : KA X g k f fn) (hr : Room k X.A) : KJ X g f fn := h X.A ⟨hr, rfl⟩
/-- the arguments given, then defaults -/
theorem ka_fnD {dvs : List V} {ds : List Value} {dps : List PV} {n : Nat} (G : FJ X.prog X.w X.K X.mg X.base g.CR k f fd ps F) (hb : Binds X.K fd ps ds) (hd : Vals dvs ds) (rd : ∀ l, RepGL X.K g l dps dvs) (hn : n + dps.length = ps.length) (tk : Takes X g.W) : KA X g k f (fun qs s => if qs.length = n then fnS F (qs ++ dps) s else .bad) := by
  intro A sb pins s σ xs vs Q l st qs I rv ok rp run
  by_cases z : qs.length = n
  · have run : Run X.K g (if qs.length = n then fnS F (qs ++ dps) st else .bad) l σ Q := run
    rw [if_pos z] at run
    have h := call_asks (F := F) (n := ps.length) ok (RepL.append rp (rd l)) (by rw [List.length_append, z, hn]) run
    have r2 : Vals (xs ++ dvs) (vs ++ ds) := rv.append hd
    have hl : (vs ++ ds).length = ps.length := by rw [← r2.length]; exact G.len _ _ _ _ h
    have e0 : Env0 X.prog X.w X.K X.mg X.base A X.stack s l.H := by
      have e := I.env0
      exact ⟨by rw [sb.fr]; exact e.frames, e.mod, e.bs, e.bsz, e.funs, e.frf, e.hok, e.bare⟩
    refine codeAny_mono (G.run A X.stack s l.H ⟨vs, []⟩ (vs ++ ds) (xs ++ dvs) Q (fun c dd H => g.W c dd σ H) sb.room e0 (hb s vs I.kIn hl) r2 h) fun r s' hq => ?_
    cases r with
    | error e => exact passAt tk σ pins l.H s e s' I hq
    | ok fl =>
      cases fl with
      | ret u => exact I.after hq
      | next => exact False.elim hq
      | brk => exact False.elim hq
      | cont => exact False.elim hq
  · have run : Run X.K g (if qs.length = n then fnS F (qs ++ dps) st else .bad) l σ Q := run
    rw [if_neg z] at run
    exact run.elim
theorem ka_fn (n : Nat) (G : FJ X.prog X.w X.K X.mg X.base g.CR k f fd ps F) (hb : Binds X.K fd ps []) (tk : Takes X g.W) (hn : n = ps.length := by rfl) : KA X g k f (fun qs s => if qs.length = n then fnS F qs s else .bad) := by
  have h := ka_fnD (dps := []) (n := n) (g := g) G hb .nil (fun l => rfl) hn tk
  intro A sb pins s σ xs vs Q l st qs I rv ok rp run
  exact h A sb pins s σ xs vs Q l st qs I rv ok rp (by
    show Run X.K g (if qs.length = n then fnS F (qs ++ []) st else .bad) l σ Q
    rw [List.append_nil]
    exact run)
theorem k_fn (n : Nat) (G : FJ X.prog X.w X.K X.mg X.base g.CR k f fd ps F) (hr : Room k X.A) (hb : Binds X.K fd ps []) (tk : Takes X g.W) (hn : n = ps.length := by rfl) : KJ X g f (fun qs s => if qs.length = n then fnS F qs s else .bad) := (ka_fn n G hb tk hn).kj hr
/-- f(e, ..) of a def of the text, every parameter given -/
theorem j_call (G : FJ X.prog X.w X.K X.mg X.base g.CR k f fd ps F) (hr : Room k X.A) (hm : X.mg x = some (.ref f)) (hk : PySem.W.keepIn X.K (.ref f) = true) (hb : Binds X.K fd ps []) (tk : Takes X g.W) (ha : JA X g (e :: es) dr) (hg : Gl X x := by rfl)
    (hn : ∀ s vs s', dr s = .ok vs s' → vs.length = ps.length) (hdb : (x == ("__debug__" : Str)) = false := by decide) (he : starEach (e :: es) X.env = (false, eval e X.env) :: starEach es X.env := by rfl) (hpl : (backTo pos (starEach es X.env)).any (·.1) = false := by rfl) :
    JE X g (.Call (.Name x p) (e :: es) [] pos) (dFnS F dr) :=
  PE.cq (j_callG (k_fn ps.length G hr hb tk).cj hg hm hk ha hdb he hpl) fun pins s σ H Q I q => by
    obtain ⟨l, s, rfl, ok, q⟩ := q
    refine ⟨l, s, rfl, ok, ?_⟩
    have q : Run X.K g ((dr s).bind fun ps s1 => fnS F ps s1) l σ Q := q
    show Run X.K g ((dr s).bind fun qs s => if qs.length = ps.length then fnS F qs s else .bad) l σ Q
    cases e1 : dr s with
    | bad => rw [e1] at q; exact q
    | exn e t => rw [e1] at q; exact q
    | ok vs t =>
      rw [e1] at q
      show Run X.K g (if vs.length = ps.length then fnS F vs t else .bad) l σ Q
      rw [if_pos (hn s vs t e1)]
      exact q
/-- e.f, a property of a ratio -/
@[simp] def fRat (fn : List PV → S → R S PV) : PV → S → R S PV := fun p s => match p with
  | .rat q => fn [.rat q] s
  | _ => .bad
theorem j_propR {fl : Str} {pA gA : Addr} (T : ClsR X.K g.CR) (hp : PropOf X.K g.CR fl pA gA) (G : FJ X.prog X.w X.K X.mg X.base g.CR k gA fd ["self"] F) (hr : Room (k + 1) X.A) (hb : Binds X.K fd ["self"] []) (he : JE X g e de) (hab : attributeBase e fl X.env (eval e X.env) = eval e X.env := by rfl) :
    JE X g (.Attribute e fl pos) (dUn (fRat (fnQ F)) de) :=
  ⟨fun pins s σ H Q I h => by
    obtain ⟨l, st, rfl, ok, h⟩ := h
    refine attr_of hab (thn (he.run pins s σ _ _ I ⟨l, st, rfl, ok, Run.bind h⟩) fun u s1 ⟨x, H1, I1, rx, l1, s1', v, e1, ok1, r1, st1, h1⟩ => ?_)
    subst e1
    cases v with
    | rat q =>
      obtain ⟨a, dx, rfl, n, hH⟩ := r1
      obtain rfl : u = Value.ref a := rx
      exact propG (E := fun _ _ _ => False) I1 hH T.cls hp G hr hb .nil (fun s e s' I c => by
        obtain ⟨_, _, _, _, _, _, _, _, _, _, _, _, z⟩ := c
        exact z.elim) (quiet_asks ok1 (ps := [.rat q]) ⟨.ref a, [], rfl, ⟨a, dx, rfl, n, hH⟩, rfl⟩ rfl h1)
    | _ => exact h1.elim⟩
/-- o.m(e, ..) of a ratio -/
@[simp] def dMethR (fn : List PV → S → R S PV) (d : DE) (dr : DA) : DE := fun s => (d s).bind fun p s1 => match p with
  | .rat q => (dr s1).bind fun ps s2 => fn (.rat q :: ps) s2
  | _ => .bad
end
end L3
namespace L3
open PySem PySem.Spec PyProof.Rows L2
end L3
namespace L3
open PySem PySem.Spec PyProof.Rows L2
structure BinF (K : PySem.W.Frag) (C f : Addr) (nm : String) : Prop where
  first : PySem.W.selfFirst K C = true
  at_ : PySem.W.findIn K (.ref C) (PySem.dunder nm) = some (some (.ref f))
  fn : PySem.W.isFn K (.ref f) = true
  rf : PySem.W.findIn K (.ref C) (dunderR nm) = some none ∨ ∃ g : Addr, PySem.W.findIn K (.ref C) (dunderR nm) = some (some (.ref g))
  i1 : ∃ fo, PySem.W.findIn K (.type "int") (PySem.dunder nm) = some fo
  i2 : ∃ ro, PySem.W.findIn K (.type "int") (dunderR nm) = some ro
  sub : PySem.W.subIn K (.type "int") (.ref C) = some false
structure UnF (K : PySem.W.Frag) (C f : Addr) (name : Str) : Prop where
  at_ : PySem.W.findIn K (.ref C) name = some (some (.ref f))
  fn : PySem.W.isFn K (.ref f) = true
@[simp] def fRL (fn : List PV → S → R S PV) : PV → PV → S → R S PV := fun p q s => match p, q with
  | .rat a, .rat b => fn [.rat a, .rat b] s
  | .rat a, .int b => fn [.rat a, .int b] s
  | _, _ => .bad
@[simp] def fRR (fn : List PV → S → R S PV) : PV → PV → S → R S PV := fun p q s => match p, q with
  | .int a, .rat b => fn [.rat b, .int a] s
  | _, _ => .bad
theorem back_of {X : Cx} {pins : List (Addr × Obj)} {σ : St} {Q : VK} {v : Value} {s : Shared} (h : EP X pins σ Q v s) : PySem.W.CmpBack (EP X pins σ Q) v s := by
  cases v with
  | notImplemented =>
    obtain ⟨x, H, I, r, q⟩ := h
    cases x with
    | int i => obtain ⟨t, e⟩ := (show ∃ t, Value.notImplemented = Value.int i t from r); cases e
    | str i => obtain ⟨t, e⟩ := (show ∃ t, Value.notImplemented = Value.str i t from r); cases e
    | flt i => obtain ⟨t, e⟩ := (show ∃ t, Value.notImplemented = Value.float i t from r); cases e
    | byt i => obtain ⟨t, e⟩ := (show ∃ t, Value.notImplemented = Value.bytes i t from r); cases e
    | non => cases (show Value.notImplemented = Value.none from r)
    | bl b => cases (show Value.notImplemented = Value.bool b from r)
    | ref a => cases (show Value.notImplemented = Value.ref a from r)
    | ty a => cases (show Value.notImplemented = Value.type a from r)
  | _ => exact h
section
variable {X : Cx} {g : Gx} {f : Addr} {fn : List PV → S → R S PV} {op : Operator}
theorem o_ratL (B : BinF X.K g.CR f op.info.2) (hc : KJ X g f fn) : OJ X g (binaryOp op) (fRL fn) := by
  intro pins s σ x y v u Q l st p q I rx ry ok rp rq run
  cases p with
  | rat a =>
    obtain ⟨a1, dx, rfl, n, hH⟩ := id rp
    cases (show v = .ref a1 from rx)
    obtain ⟨mA, O, _⟩ := ins_get I.hok hH
    obtain ⟨od, J, _⟩ := O.look
    obtain ⟨m, hF⟩ := I.fr
    cases q with
    | rat b =>
      obtain ⟨b1, dy, rfl, n2, hH2⟩ := id rq
      cases (show u = .ref b1 from ry)
      obtain ⟨mB, O2, _⟩ := ins_get I.hok hH2
      obtain ⟨od2, J2, _⟩ := O2.look
      exact PySem.W.binop_K hF I.ok.mod.kin J J2.type B.first B.at_ B.fn (wpAny_mono (hc.cj pins s σ [.ref a1, .ref b1] [.ref a1, .ref b1] Q l st [.rat a, .rat b] I (.cons rfl (.cons rfl .nil)) ok ⟨_, _, rfl, rp, _, _, rfl, rq, rfl⟩ run) (fun _ _ z => back_of z) fun _ _ z => z)
    | int b =>
      cases (show y = .int b from rq)
      obtain ⟨t, rfl⟩ := (show ∃ t, u = Value.int b t from ry)
      obtain ⟨fo, h1⟩ := B.i1
      obtain ⟨ro, h2⟩ := B.i2
      have hh := wpAny_mono (hc.cj pins s σ [.ref a1, .int b] [.ref a1, .int b t] Q l st [.rat a, .int b] I (.cons rfl (.cons ⟨t, rfl⟩ .nil)) ok ⟨_, _, rfl, rp, _, _, rfl, rfl, rfl⟩ run) (fun _ _ z => back_of z) fun _ _ z => z
      rcases B.rf with h3 | ⟨g', h3⟩
      · exact PySem.W.ksp_binT hF I.ok.mod.kin J rfl B.first B.at_ B.fn h3 (.inl rfl) h1 h2 B.sub hh
      · exact PySem.W.ksp_binT hF I.ok.mod.kin J rfl B.first B.at_ B.fn h3 (.inr ⟨g', rfl⟩) h1 h2 B.sub hh
    | _ => exact run.elim
  | _ => exact run.elim
/-- -x -/
theorem u_negR (B : UnF X.K g.CR f "__neg__") (hc : KJ X g f fn) : UJ X g (unaryOp .USub) (fRat fn) := by
  intro pins s σ x v Q l st p I rx ok rp run
  cases p with
  | rat a =>
    obtain ⟨a1, dx, rfl, n, hH⟩ := id rp
    cases (show v = .ref a1 from rx)
    obtain ⟨mA, O, _⟩ := ins_get I.hok hH
    obtain ⟨od, J, _⟩ := O.look
    obtain ⟨m, hF⟩ := I.fr
    exact PySem.W.ksp_neg hF I.ok.mod.kin J B.at_ B.fn (hc.cj pins s σ [.ref a1] [.ref a1] Q l st [.rat a] I (.cons rfl .nil) ok ⟨_, _, rfl, rp, rfl⟩ run)
  | _ => exact run.elim
@[simp] def fNegI : PV → S → R S PV := fun p s => match p with
  | .int i => .ok (.int (-i)) s
  | _ => .bad
theorem u_negI : UJ X g (unaryOp .USub) fNegI := UJ.of un_neg fun l st σ p x Q ok rp run => by
  cases p with
  | int i => exact ⟨i, rp, run l _ (Step.refl l) ok rfl⟩
  | _ => exact run.elim
/-- x == y, x a ratio; whatever y is -/
structure CmpF (K : PySem.W.Frag) (C f : Addr) (name : Str) : Prop where
  at_ : PySem.W.findIn K (.ref C) name = some (some (.ref f))
  fn : PySem.W.isFn K (.ref f) = true
  n0 : PySem.W.notFirst K C (.ref C) = true
  n1 : ∀ t : String, t = "int" ∨ t = "bool" ∨ t = "str" ∨ t = "NoneType" → PySem.W.notFirst K C (.type t) = true
@[simp] def fEqL (fn : List PV → S → R S PV) : PV → PV → S → R S PV := fun p q s => match p, q with
  | .rat a, .rat b => fn [.rat a, .rat b] s
  | .rat a, .int b => fn [.rat a, .int b] s
  | .rat a, .bl b => fn [.rat a, .bl b] s
  | .rat a, .str b => fn [.rat a, .str b] s
  | .rat a, .non => fn [.rat a, .non] s
  | _, _ => .bad
end
end L3
namespace L3
open PySem PySem.Spec PyProof.Rows L2
def froz1 (i : Nat) (s : S) : S := match s.env[i]? with
  | some (some (.own xs)) => ⟨s.env.set i (some (.val (.lst xs))), s.mu⟩
  | _ => s
@[simp] def frozS : List Nat → S → S
  | [], s => s
  | i :: is, s => frozS is (froz1 i s)
mutual
def flatP : PV → Bool
  | .tup xs => flatL xs
  | .obj _ _ xs => flatL xs
  | .dk _ xs => flatL xs
  | .dt _ xs => flatL xs
  | .exc _ _ xs => flatL xs
  | .clo _ xs => flatL xs
  | .lst _ => false
  | .frz _ => false
  | _ => true
def flatL : List PV → Bool
  | [] => true
  | x :: xs => flatP x && flatL xs
end
@[simp] def flatM : MO → Bool
  | .lst xs => flatL xs
  | .ins _ _ xs => flatL xs
  | .nst _ _ xs => flatL xs
  | .dic _ xs => flatL xs
def flatMs (mu : List MO) : Bool := mu.all flatM
section
variable {K : PySem.W.Frag} {g : Gx} {l : Lc} {s : S} {σ : St}
theorem freeze1 (i : Nat) (ok : Sok K g l s σ) : ∃ l0, Step l l0 ∧ l0.al = l.al ∧ l0.H = l.H ∧ (∀ a, l0.M a → l.M a) ∧ (∀ xs a, s.env[i]? = some (some (.own xs)) → σ[i]? = some (some (.ref a)) → ¬ l0.M a) ∧ Sok K g l0 (froz1 i s) σ ∧
    ∀ j xs, j ≠ i → s.env[j]? = some (some (.own xs)) → (froz1 i s).env[j]? = some (some (.own xs)) := by
  unfold froz1
  split
  · rename_i xs e
    obtain ⟨a, vs, h1, h2, h3, h4, h5⟩ := ok.own i xs e
    have hi : i < s.env.length := (List.getElem?_eq_some_iff.mp e).1
    have st : Step l ⟨l.al, fun b => l.M b ∧ b ≠ a, l.H⟩ := ⟨⟨[], by simp⟩, fun _ h => .inl h.1, fun _ _ n e => e, fun _ h => h⟩
    have st : Step l ⟨l.al, fun b => l.M b ∧ b ≠ a, l.H⟩ := ⟨⟨[], by simp⟩, fun _ h => .inl h.1, fun b o n e => e, fun _ h => h⟩
    refine ⟨⟨l.al, fun b => l.M b ∧ b ≠ a, l.H⟩, st, rfl, rfl, fun b h => h.1, fun ys b e1 e2 z => ?_, ?_, fun j ys n e1 => ?_⟩
    · rw [h1] at e2
      cases e2
      exact z.2 rfl
    · refine ⟨by show (s.env.set i _).length = _; rw [List.length_set]; exact ok.len, fun j v h => ?_, fun j ys h => ?_, fun j k ys zs b n q1 q2 q3 q4 => ?_, ok.mlen, fun n b m q1 q2 => ?_, ok.nd, fun b h => ⟨ok.alM b h, fun z => h3 (by rw [← z]; exact h)⟩, fun b h => ?_, fun b h => ok.mn b h.1, fun x hx => (ok.tabs x hx).to ⟨(ok.tabs x hx).M, (ok.tabs x hx).ne h4 fun ps z => by cases z⟩ (ok.tabs x hx).al (fun ps q => q) fun c q n e => st.repL' c _ n e⟩
      · by_cases z : j = i
        · subst z
          have h : (s.env.set j (some (.val (.lst xs))))[j]? = some (some (.val v)) := h
          rw [List.getElem?_set_self hi] at h
          cases h
          exact ⟨.ref a, h1, a, vs, rfl, fun q => by
            rcases q with q | q
            · exact q.2 rfl
            · exact ok.mn a h2 q, h4, st.reps h5⟩
        · have h : (s.env.set i (some (.val (.lst xs))))[j]? = some (some (.val v)) := h
          rw [List.getElem?_set_ne (Ne.symm z)] at h
          obtain ⟨u, q1, q2⟩ := ok.env j v h
          exact ⟨u, q1, st.rep q2⟩
      · by_cases z : j = i
        · subst z
          have h : (s.env.set j (some (.val (.lst xs))))[j]? = some (some (.own ys)) := h
          rw [List.getElem?_set_self hi] at h
          cases h
        · have h : (s.env.set i (some (.val (.lst xs))))[j]? = some (some (.own ys)) := h
          rw [List.getElem?_set_ne (Ne.symm z)] at h
          obtain ⟨b, ws, q1, q2, q3, q4, q5⟩ := ok.own j ys h
          exact ⟨b, ws, q1, ⟨q2, fun y => by rw [y] at q1; exact ok.dis j i ys xs a z h e q1 h1⟩, q3, q4, st.reps q5⟩
      · have oth : ∀ (j : Nat) zs, (s.env.set i (some (.val (.lst xs))))[j]? = some (some (.own zs)) → s.env[j]? = some (some (.own zs)) := fun j zs h => by
          by_cases z : j = i
          · subst z
            rw [List.getElem?_set_self hi] at h
            cases h
          · rw [List.getElem?_set_ne (Ne.symm z)] at h; exact h
        exact ok.dis j k ys zs b n (oth _ _ q1) (oth _ _ q2) q3 q4
      · have q := ok.mu n b m q1 q2
        cases m with
        | lst xs => obtain ⟨vs, r1, r2⟩ := q; exact ⟨vs, r1, st.reps r2⟩
        | ins C ns xs => obtain ⟨dx, vs, r1, r2, r3⟩ := q; exact ⟨dx, vs, r1, r2, st.reps r3⟩
        | nst C ns xs => obtain ⟨dx, vs, r1, r2, r3⟩ := q; exact ⟨dx, vs, r1, r2, st.reps r3⟩
        | dic ns xs => obtain ⟨vs, r1, r2, r9, r3⟩ := q; exact ⟨vs, r1, r2, r9, st.reps r3⟩
      · rcases h with h | h
        · exact ok.there b (.inl h.1)
        · exact ok.there b (.inr h)
    · show (s.env.set i _)[j]? = _
      rw [List.getElem?_set_ne (Ne.symm n)]
      exact e1
  · rename_i e
    exact ⟨l, Step.refl l, rfl, rfl, fun _ h => h, fun xs a h1 _ => absurd h1 (e xs), ok, fun _ _ _ h => h⟩
theorem freeze : ∀ (is : List Nat) {l : Lc} {s : S}, Sok K g l s σ → ∃ l0, Step l l0 ∧ l0.al = l.al ∧ l0.H = l.H ∧ (∀ a, l0.M a → l.M a) ∧ (∀ i ∈ is, ∀ xs a, s.env[i]? = some (some (.own xs)) → σ[i]? = some (some (.ref a)) → ¬ l0.M a) ∧ Sok K g l0 (frozS is s) σ
  | [], l, s, ok => ⟨l, Step.refl l, rfl, rfl, fun _ h => h, fun i h => by simp at h, ok⟩
  | i :: is, l, s, ok => by
    obtain ⟨l1, st1, e1, e2, e3, e4, ok1, e5⟩ := freeze1 i ok
    obtain ⟨l0, st0, f1, f2, f3, f4, ok0⟩ := freeze is ok1
    refine ⟨l0, st1.trans st0, f1.trans e1, f2.trans e2, fun a h => e3 a (f3 a h), fun j hj xs a h1 h2 z => ?_, ok0⟩
    by_cases q : j = i
    · subst q
      exact e4 xs a h1 h2 (f3 a z)
    · rcases List.mem_cons.mp hj with y | y
      · exact q y
      · exact f4 j y xs a (e5 j xs q h1) h2 z
mutual
theorem Rep.fl8 {CR : Addr} {al : List Addr} {L L' : Addr → Prop} {H : Hp} (hL : ∀ a o, ¬ L a → H a = some o → (∀ vs, o ≠ .lst vs) → ¬ L' a) : ∀ (x : PV) (v : V), flatP x = true → Rep K CR al L H x v → Rep K CR al L' H x v
  | .non, v, _, h => h
  | .bl b, v, _, h => h
  | .int i, v, _, h => h
  | .str x, v, _, h => h
  | .rat q, v, _, h => by
    obtain ⟨a, dx, e, n, h⟩ := h
    exact ⟨a, dx, e, hL a _ n h (fun vs z => by cases z), h⟩
  | .tup xs, v, hf, h => by
    obtain ⟨a, vs, e, h, r⟩ := h
    refine ⟨a, vs, e, ?_, RepL.fl8 hL xs vs (by unfold flatP at hf; exact hf) r⟩
    rcases h with ⟨n, h | ⟨u, h⟩⟩ | h
    · exact .inl ⟨hL a _ n h (fun vs z => by cases z), .inl h⟩
    · exact .inl ⟨hL a _ n h (fun vs z => by cases z), .inr ⟨u, h⟩⟩
    · exact .inr h
  | .lst xs, v, hf, h => by unfold flatP at hf; cases hf
  | .frz xs, v, hf, h => by unfold flatP at hf; cases hf
  | .obj C ns xs, v, hf, h => by
    obtain ⟨a, dx, vs, e, n, h, z, r⟩ := h
    exact ⟨a, dx, vs, e, hL a _ n h (fun vs z => by cases z), h, z, RepL.fl8 hL xs vs (by unfold flatP at hf; exact hf) r⟩
  | .ptr n, v, _, h => h
  | .adr a, v, _, h => h
  | .ty n, v, _, h => h
  | .dk ks xs, v, hf, h => by
    obtain ⟨a, vs, e, n, h, z, r⟩ := h
    refine ⟨a, vs, e, ?_, h, z, RepL.fl8 hL xs vs (by unfold flatP at hf; exact hf) r⟩
    rcases h with h | ⟨u, h⟩
    · exact hL a _ n h (fun vs z => by cases z)
    · exact hL a _ n h (fun vs z => by cases z)
  | .dt ks xs, v, hf, h => by
    obtain ⟨a, vs, e, n, h, z, r⟩ := h
    refine ⟨a, vs, e, ?_, h, z, RepL.fl8 hL xs vs (by unfold flatP at hf; exact hf) r⟩
    rcases h with h | ⟨u, h⟩
    · exact hL a _ n h (fun vs z => by cases z)
    · exact hL a _ n h (fun vs z => by cases z)
  | .exc C ns xs, v, hf, h => by
    obtain ⟨a, d, vs, e, n, h, z, q, r⟩ := h
    refine ⟨a, d, vs, e, hL a _ n h (fun vs z => by cases z), h, z, ?_, RepL.fl8 hL xs vs (by unfold flatP at hf; exact hf) r⟩
    rcases q with q | ⟨dd, q1, q2, q3⟩
    · exact .inl q
    · exact .inr ⟨dd, q1, hL dd _ q2 q3 (fun vs z => by cases z), q3⟩
  | .clo t xs, v, hf, h => by
    obtain ⟨e, n, h, r⟩ := h
    exact ⟨e, hL t.c _ n h (fun vs z => by cases z), h, RepL.fl8 hL xs t.vs (by unfold flatP at hf; exact hf) r⟩
theorem RepL.fl8 {CR : Addr} {al : List Addr} {L L' : Addr → Prop} {H : Hp} (hL : ∀ a o, ¬ L a → H a = some o → (∀ vs, o ≠ .lst vs) → ¬ L' a) : ∀ (x : List PV) (v : List V), flatL x = true → RepL K CR al L H x v → RepL K CR al L' H x v
  | [], v, _, h => h
  | x :: xs, v, hf, h => by
    obtain ⟨u, r, e, h1, h2⟩ := h
    have hf : (flatP x && flatL xs) = true := by unfold flatL at hf; exact hf
    rw [Bool.and_eq_true] at hf
    exact ⟨u, r, e, Rep.fl8 hL x u hf.1 h1, RepL.fl8 hL xs r hf.2 h2⟩
end
/-- after a loan: the own lists are the frame's again -/
theorem unlend {is : List Nat} {l0 l1 : Lc} {s1 : S} (ok : Sok K g l s σ) (e1 : l0.al = l.al) (e2 : l0.H = l.H) (e3 : ∀ a, l0.M a → l.M a) (e4 : ∀ i ∈ is, ∀ xs a, s.env[i]? = some (some (.own xs)) → σ[i]? = some (some (.ref a)) → ¬ l0.M a) (st1 : Step l0 l1) (ok1 : Sok K g l1 s1 σ) (hf : flatMs s1.mu = true)
    (e6 : ∀ (i : Nat) xs, s.env[i]? = some (some (.own xs)) → i ∈ is) :
    ∃ l', l'.H = l1.H ∧ Step l l' ∧ Sok K g l' ⟨s.env, s1.mu⟩ σ ∧ ∀ v u, flatP v = true → RepG K g l1 v u → RepG K g l' v u := by
  have own1 : ∀ (i : Nat) xs a, s.env[i]? = some (some (.own xs)) → σ[i]? = some (some (.ref a)) → ∃ vs, l.M a ∧ a ∉ l.al ∧ l.H a = some (.lst vs) ∧ RepGL K g l xs vs ∧ l1.H a = some (.lst vs) ∧ a ∉ l1.al := by
    intro i xs a h1 h2
    obtain ⟨b, vs, q1, q2, q3, q4, q5⟩ := ok.own i xs h1
    rw [h2] at q1
    cases q1
    have n0 := e4 i (e6 i xs h1) xs a h1 h2
    refine ⟨vs, q2, q3, q4, q5, st1.keep a _ n0 (by rw [e2]; exact q4), fun z => ?_⟩
    rcases st1.new a (ok1.alM a z) with y | y
    · exact n0 y
    · rw [e2, q4] at y; cases y
  have st : Step l ⟨l1.al, fun a => l1.M a ∨ ∃ (i : Nat) (xs : List PV), s.env[i]? = some (some (.own xs)) ∧ σ[i]? = some (some (.ref a)), l1.H⟩ := by
    refine ⟨by rw [← e1]; exact st1.pre, fun a h => ?_, fun a o n e => st1.keep a o (fun z => n (e3 a z)) (by rw [e2]; exact e), fun a h => st1.dom a (by rw [e2]; exact h)⟩
    rcases h with h | ⟨i, xs, h1, h2⟩
    · rcases st1.new a h with q | q
      · exact .inl (e3 a q)
      · exact .inr (by rw [← e2]; exact q)
    · obtain ⟨vs, q, _⟩ := own1 i xs a h1 h2
      exact .inl q
  have fl : ∀ a o, ¬ g.L l1 a → l1.H a = some o → (∀ vs, o ≠ .lst vs) → ¬ g.L ⟨l1.al, fun a => l1.M a ∨ ∃ (i : Nat) (xs : List PV), s.env[i]? = some (some (.own xs)) ∧ σ[i]? = some (some (.ref a)), l1.H⟩ a := by
    intro a o n h hv z
    rcases z with (z | ⟨i, xs, h1, h2⟩) | z
    · exact n (.inl z)
    · obtain ⟨vs, _, _, _, _, q, _⟩ := own1 i xs a h1 h2
      rw [h] at q
      cases q
      exact hv vs rfl
    · exact n (.inr z)
  refine ⟨⟨l1.al, fun a => l1.M a ∨ ∃ (i : Nat) (xs : List PV), s.env[i]? = some (some (.own xs)) ∧ σ[i]? = some (some (.ref a)), l1.H⟩, rfl, st, ⟨ok.len, fun i v h => ?_, fun i xs h => ?_, ok.dis, ok1.mlen, fun n a m h1 h2 => ?_, ok1.nd, fun a h => .inl (ok1.alM a h), fun a h => ?_, fun a h => ?_, fun x hx => (ok1.tabs x hx).to (.inl (ok1.tabs x hx).M) (ok1.tabs x hx).al (fun ps q => q) fun c q n e => ⟨e, fl c _ n e fun vs z => by cases z⟩⟩, fun v u hv r => Rep.fl8 fl v u hv r⟩
  · obtain ⟨u, h1, h2⟩ := ok.env i v h
    exact ⟨u, h1, st.rep h2⟩
  · obtain ⟨a, vs, h1, _⟩ := ok.own i xs h
    obtain ⟨vs, q1, q2, q3, q4, q5, q6⟩ := own1 i xs a h h1
    exact ⟨a, vs, h1, .inr ⟨i, xs, h, h1⟩, q6, q5, st.reps q4⟩
  · have q := ok1.mu n a m h1 h2
    have hm : flatM m = true := List.all_eq_true.mp hf m (List.mem_of_getElem? h2)
    cases m with
    | lst xs => obtain ⟨vs, r1, r2⟩ := q; exact ⟨vs, r1, RepL.fl8 fl _ _ hm r2⟩
    | ins C ns xs => obtain ⟨dx, vs, r1, r2, r3⟩ := q; exact ⟨dx, vs, r1, r2, RepL.fl8 fl _ _ hm r3⟩
    | nst C ns xs => obtain ⟨dx, vs, r1, r2, r3⟩ := q; exact ⟨dx, vs, r1, r2, RepL.fl8 fl _ _ hm r3⟩
    | dic ns xs => obtain ⟨vs, r1, r2, r9, r3⟩ := q; exact ⟨vs, r1, r2, r9, RepL.fl8 fl _ _ hm r3⟩
  · rcases h with (h | ⟨i, xs, h1, h2⟩) | h
    · exact ok1.there a (.inl h)
    · obtain ⟨vs, _, _, _, _, q, _⟩ := own1 i xs a h1 h2
      show l1.H a ≠ none
      rw [q]; simp
    · exact ok1.there a (.inr h)
  · rcases h with h | ⟨i, xs, h1, h2⟩
    · exact ok1.mn a h
    · obtain ⟨vs, q, _⟩ := own1 i xs a h1 h2
      exact ok.mn a q
end
/-- only these slots hold own lists -/
def ownIn (is : List Nat) (env : List (Option SV)) : Bool := (List.range env.length).all fun i => match env[i]? with
  | some (some (.own _)) => is.contains i
  | _ => true
theorem ownIn_ok {is : List Nat} {env : List (Option SV)} (h : ownIn is env = true) (i : Nat) (xs : List PV) (e : env[i]? = some (some (.own xs))) : i ∈ is := by
  have q := List.all_eq_true.mp h i (List.mem_range.mpr (List.getElem?_eq_some_iff.mp e).1)
  rw [e] at q
  simpa using q
@[simp] def dBor (is : List Nat) (d : DE) : DE := fun s => if ownIn is s.env = true then (match d (frozS is s) with
  | .ok v s1 => if flatP v = true ∧ flatMs s1.mu = true then .ok v ⟨s.env, s1.mu⟩ else .bad
  | _ => .bad) else .bad
@[simp] def dBorT (is : List Nat) (d : DT) : DT := fun s => if ownIn is s.env = true then (match d (frozS is s) with
  | .ok v s1 => if flatMs s1.mu = true then .ok v ⟨s.env, s1.mu⟩ else .bad
  | _ => .bad) else .bad
@[simp] def dRetF (is : List Nat) (d : DE) : DS := fun s => dRet d (frozS is s)
@[simp] def dFrz (is : List Nat) (d : DS) : DS := fun s => d (frozS is s)
section
variable {X : Cx} {g : Gx} {a b c e : Expr} {es : List Expr} {st : Stmt} {sts : List Stmt} {da db dc de : DE} {dt : DT} {ds : DS} {pos : Pos}
theorem j_bor {is : List Nat} (h : JE X g e de) : JE X g e (dBor is de) := PE.cq h fun pins s0 σ H Q I q => by
  obtain ⟨l, s, rfl, ok, q⟩ := q
  obtain ⟨l0, st0, e1, e2, e3, e4, ok0⟩ := freeze is ok
  refine ⟨l0, frozS is s, e2, ok0, ?_⟩
  simp only [dBor] at q
  by_cases hw : ownIn is s.env = true
  · rw [if_pos hw] at q
    cases e5 : de (frozS is s) with
    | bad => rw [e5] at q; exact q
    | exn x t => rw [e5] at q; exact q.elim
    | ok v s1 =>
      rw [e5] at q
      simp only at q
      by_cases hf : flatP v = true ∧ flatMs s1.mu = true
      · rw [if_pos hf] at q
        intro l1 u st1 ok1 r1
        obtain ⟨l', h1, h2, h3, h4⟩ := unlend ok e1 e2 e3 e4 st1 ok1 hf.2 (ownIn_ok hw)
        have := q l' u h2 h3 (h4 v u hf.1 r1)
        rw [h1] at this
        exact this
      · rw [if_neg hf] at q
        exact q.elim
  · rw [if_neg hw] at q
    exact q.elim
theorem lt_bor {K : PySem.W.Frag} (is : List Nat) {σ : St} {H : Hp} {Q : Bool → Hp → Prop} (q : LT K g (dBorT is dt) σ H Q) : LT K g dt σ H Q := by
  obtain ⟨l, s, rfl, ok, q⟩ := q
  obtain ⟨l0, st0, e1, e2, e3, e4, ok0⟩ := freeze is ok
  refine ⟨l0, frozS is s, e2, ok0, ?_⟩
  simp only [dBorT] at q
  by_cases hw : ownIn is s.env = true
  · rw [if_pos hw] at q
    cases e5 : dt (frozS is s) with
    | bad => rw [e5] at q; exact q
    | exn x t => rw [e5] at q; exact q.elim
    | ok v s1 =>
      rw [e5] at q
      simp only at q
      by_cases hf : flatMs s1.mu = true
      · rw [if_pos hf] at q
        intro l1 st1 ok1
        obtain ⟨l', h1, h2, h3, h4⟩ := unlend ok e1 e2 e3 e4 st1 ok1 hf (ownIn_ok hw)
        have := q l' h2 h3
        rw [h1] at this
        exact this
      · rw [if_neg hf] at q
        exact q.elim
  · rw [if_neg hw] at q
    exact q.elim
theorem jt_bor {is : List Nat} (h : JT X g e dt) : JT X g e (dBorT is dt) := PT.cq h fun σ H Q q => lt_bor is q
theorem ls_frz {K : PySem.W.Frag} (is : List Nat) {D : Ends} {σ : St} {H : Hp} (q : LS K g (dFrz is ds) D σ H) : LS K g ds D σ H := by
  obtain ⟨l, s, rfl, ok, q⟩ := q
  obtain ⟨l0, st0, e1, e2, e3, e4, ok0⟩ := freeze is ok
  exact ⟨l0, frozS is s, e2, ok0, RunS.step (r := ds (frozS is s)) q st0⟩
/-- from here on the lists are no more changed -/
theorem js_frz {is : List Nat} (h : JS X g st ds) : JS X g st (dFrz is ds) := PS.cq h fun pins s D σ H I q => ls_frz is q
end
end L3
namespace L3
open PySem PySem.Spec PyProof.Rows L2
abbrev Gx.hid (g : Gx) (P : List Addr) : Gx := ⟨g.CR, fun a => g.N a ∨ a ∈ P, g.W⟩
def RepSV (K : PySem.W.Frag) (g : Gx) (l : Lc) : List SV → List V → List Addr → Prop
  | [], us, P => us = [] ∧ P = []
  | .val v :: r, us, P => ∃ u us', us = u :: us' ∧ RepG K g l v u ∧ RepSV K g l r us' P
  | .own xs :: r, us, P => ∃ p vs us' P', us = .ref p :: us' ∧ P = p :: P' ∧ l.H p = some (.lst vs) ∧ RepGL K g l xs vs ∧ RepSV K g l r us' P'
abbrev DX := S → R S (List SV)
def RunX (K : PySem.W.Frag) (g : Gx) (r : R S (List SV)) (l : Lc) (σ : St) (Q : List V → Hp → Prop) : Prop := match r with
  | .ok svs s' => ∀ l' us P, Step l l' → (∀ p ∈ P, l.H p = none) → P.Nodup → Sok K (g.hid P) l' s' σ → RepSV K (g.hid P) l' svs us P → Q us l'.H
  | .exn e s' => ∀ l' cls dd, Step l l' → Sok K g l' s' σ → RepX K g l' e cls dd → g.W cls dd σ l'.H
  | .bad => False
def LX (K : PySem.W.Frag) (g : Gx) (d : DX) : TA := fun σ H Q => ∃ l s, l.H = H ∧ Sok K g l s σ ∧ RunX K g (d s) l σ Q
abbrev JX (X : Cx) (g : Gx) (es : List Expr) (d : DX) : Prop := PA X es (LX X.K g d)
@[simp] def xNil : DX := fun s => .ok [] s
@[simp] def xVal (d : DE) (r : DX) : DX := fun s => (d s).bind fun v s1 => (r s1).bind fun vs s2 => .ok (.val v :: vs) s2
@[simp] def xOwn (d : DL) (r : DX) : DX := fun s => (d s).bind fun v s1 => (r s1).bind fun vs s2 => .ok (.own v :: vs) s2
@[simp] def setX : List Nat → List SV → S → Option S
  | [], [], s => some s
  | j :: js, v :: vs, s => setX js vs ⟨s.env.set j (some v), s.mu⟩
  | _, _, _ => none
@[simp] def dAsgX (js : List Nat) (d : DX) : DS := fun s => (d s).bind fun vs s1 => match setX js vs s1 with
  | some s2 => .ok .nx s2
  | none => .bad
section
variable {K : PySem.W.Frag} {g : Gx} {l l' : Lc} {s : S} {σ : St}
theorem Gx.hid_nil : g.hid [] = g := by
  obtain ⟨CR, N, W⟩ := g
  show Gx.mk CR (fun a => N a ∨ a ∈ ([] : List Addr)) W = _
  congr 1
  funext a
  simp
theorem Gx.hid_cons {p : Addr} {P : List Addr} : Gx.hid ⟨g.CR, fun a => g.N a ∨ a = p, g.W⟩ P = g.hid (p :: P) := by
  show Gx.mk g.CR (fun a => (g.N a ∨ a = p) ∨ a ∈ P) g.W = Gx.mk g.CR (fun a => g.N a ∨ a ∈ p :: P) g.W
  congr 1
  funext a
  simp only [List.mem_cons]
  exact propext or_assoc
theorem hid_rep {P : List Addr} (st : Step l l') (hP : ∀ p ∈ P, l.H p = none) : ∀ a o, ¬ g.L l a → l.H a = some o → l'.H a = some o ∧ ¬ (g.hid P).L l' a := fun a o n e => by
  refine ⟨st.keep a o (fun z => n (.inl z)) e, fun z => ?_⟩
  rcases z with z | z | z
  · rcases st.new a z with q | q
    · exact n (.inl q)
    · rw [e] at q; cases q
  · exact n (.inr z)
  · rw [hP a z] at e; cases e
theorem hid_repG {P : List Addr} (st : Step l l') (hP : ∀ p ∈ P, l.H p = none) {x : PV} {v : V} (h : RepG K g l x v) : RepG K (g.hid P) l' x v := Rep.mono st.al (hid_rep st hP) x v h
theorem hid_repGL {P : List Addr} (st : Step l l') (hP : ∀ p ∈ P, l.H p = none) {x : List PV} {v : List V} (h : RepGL K g l x v) : RepGL K (g.hid P) l' x v := RepL.mono st.al (hid_rep st hP) x v h
theorem RepX.less {N' : Addr → Prop} {e : PV} {cls : Value} {dd : Option Addr} (hN : ∀ a, g.N a → N' a) (h : RepX K ⟨g.CR, N', g.W⟩ l e cls dd) : RepX K g l e cls dd := by
  obtain ⟨C, ns, xs, vs, h1, h2, h3, h4, h5⟩ := h
  have hL : ∀ a, g.L l a → Gx.L ⟨g.CR, N', g.W⟩ l a := fun a z => z.elim .inl fun z => .inr (hN a z)
  refine ⟨C, ns, xs, vs, h1, h2, h3, RepL.mono (fun _ _ h => h) (fun a o n e => ⟨e, fun z => n (hL a z)⟩) _ _ h4, ?_⟩
  rcases h5 with h5 | ⟨d, h5, h6, h7⟩
  · exact .inl h5
  · exact .inr ⟨d, h5, fun z => h6 (hL d z), h7⟩
theorem Sok.less {N' : Addr → Prop} (ok : Sok K ⟨g.CR, N', g.W⟩ l s σ) (hN : ∀ a, g.N a → N' a) : Sok K g l s σ := by
  have hL : ∀ a, g.L l a → Gx.L ⟨g.CR, N', g.W⟩ l a := fun a z => z.elim .inl fun z => .inr (hN a z)
  have rp : ∀ x v, Rep K g.CR l.al (Gx.L ⟨g.CR, N', g.W⟩ l) l.H x v → RepG K g l x v := fun x v h => Rep.mono (fun _ _ h => h) (fun a o n e => ⟨e, fun z => n (hL a z)⟩) x v h
  have rpl : ∀ x v, RepL K g.CR l.al (Gx.L ⟨g.CR, N', g.W⟩ l) l.H x v → RepGL K g l x v := fun x v h => RepL.mono (fun _ _ h => h) (fun a o n e => ⟨e, fun z => n (hL a z)⟩) x v h
  refine ⟨ok.len, fun i v e => ?_, fun i xs e => ?_, ok.dis, ok.mlen, fun n a m h1 h2 => ?_, ok.nd, ok.alM, fun a h => ok.there a (h.elim .inl fun z => .inr (hN a z)), fun a h z => ok.mn a h (hN a z), fun x hx => (ok.tabs x hx).to (ok.tabs x hx).M (ok.tabs x hx).al (fun ps q => q) fun c q n e => ⟨e, fun z => n (hL c z)⟩⟩
  · obtain ⟨u, h1, h2⟩ := ok.env i v e
    exact ⟨u, h1, rp _ _ h2⟩
  · obtain ⟨a, vs, h1, h2, h3, h4, h5⟩ := ok.own i xs e
    exact ⟨a, vs, h1, h2, h3, h4, rpl _ _ h5⟩
  · have q := ok.mu n a m h1 h2
    cases m with
    | lst xs => obtain ⟨vs, r1, r2⟩ := q; exact ⟨vs, r1, rpl _ _ r2⟩
    | ins C ns xs => obtain ⟨dx, vs, r1, r2, r3⟩ := q; exact ⟨dx, vs, r1, r2, rpl _ _ r3⟩
    | nst C ns xs => obtain ⟨dx, vs, r1, r2, r3⟩ := q; exact ⟨dx, vs, r1, r2, rpl _ _ r3⟩
    | dic ns xs => obtain ⟨vs, r1, r2, r9, r3⟩ := q; exact ⟨vs, r1, r2, r9, rpl _ _ r3⟩
/-- a hidden new list comes into a slot -/
theorem ownHid {p : Addr} {P : List Addr} {j : Nat} {xs : List PV} {vs : List V} (ok : Sok K (g.hid (p :: P)) l s σ) (hp : l.H p = some (.lst vs)) (r : RepGL K (g.hid (p :: P)) l xs vs) (hn : p ∉ P) (hg : ¬ g.N p) :
    Sok K (g.hid P) ⟨l.al, fun a => l.M a ∨ a = p, l.H⟩ ⟨s.env.set j (some (.own xs)), s.mu⟩ (σ.set j (some (.ref p))) ∧ ∀ {x v}, RepG K (g.hid (p :: P)) l x v → RepG K (g.hid P) ⟨l.al, fun a => l.M a ∨ a = p, l.H⟩ x v := by
  have hL : ∀ a, (g.hid P).L ⟨l.al, fun a => l.M a ∨ a = p, l.H⟩ a → (g.hid (p :: P)).L l a := fun a z => by
    rcases z with (z | z) | z | z
    · exact .inl z
    · exact .inr (.inr (by rw [z]; exact List.mem_cons_self))
    · exact .inr (.inl z)
    · exact .inr (.inr (List.mem_cons_of_mem _ z))
  have rp : ∀ {x v}, RepG K (g.hid (p :: P)) l x v → RepG K (g.hid P) ⟨l.al, fun a => l.M a ∨ a = p, l.H⟩ x v := fun h => Rep.mono (fun _ _ h => h) (fun a o n e => ⟨e, fun z => n (hL a z)⟩) _ _ h
  have rpl : ∀ {x v}, RepGL K (g.hid (p :: P)) l x v → RepGL K (g.hid P) ⟨l.al, fun a => l.M a ∨ a = p, l.H⟩ x v := fun h => RepL.mono (fun _ _ h => h) (fun a o n e => ⟨e, fun z => n (hL a z)⟩) _ _ h
  have nM : ¬ l.M p := fun z => ok.mn p z (.inr List.mem_cons_self)
  refine ⟨⟨by show (s.env.set j _).length = _; rw [List.length_set, List.length_set]; exact ok.len, fun i v h => ?_, fun i zs h => ?_, fun i k zs ws b n q1 q2 q3 q4 => ?_, ok.mlen, fun n b m q1 q2 => ?_, ok.nd, fun a h => .inl (ok.alM a h), fun b h => ?_, fun b h => ?_, fun x hx => (ok.tabs x hx).to (.inl (ok.tabs x hx).M) (ok.tabs x hx).al (fun ps q => q) fun c q n e => ⟨e, fun z => n (hL c z)⟩⟩, rp⟩
  · rcases get_set h with ⟨_, e, _⟩ | ⟨e, h⟩
    · cases e
    · obtain ⟨u, h1, h2⟩ := ok.env i v h
      exact ⟨u, by rw [List.getElem?_set_ne (Ne.symm e)]; exact h1, rp h2⟩
  · rcases get_set h with ⟨e1, e2, e3⟩ | ⟨e, h⟩
    · cases e2
      subst e1
      exact ⟨p, vs, by rw [List.getElem?_set_self (by rw [← ok.len]; exact e3)], .inr rfl, fun z => nM (ok.alM p z), hp, rpl r⟩
    · obtain ⟨a, ws, h1, h2, h3, h4, h5⟩ := ok.own i zs h
      exact ⟨a, ws, by rw [List.getElem?_set_ne (Ne.symm e)]; exact h1, .inl h2, h3, h4, rpl h5⟩
  · have two : ∀ (i : Nat) zs b, (s.env.set j (some (.own xs)))[i]? = some (some (.own zs)) → (σ.set j (some (.ref p)))[i]? = some (some (.ref b)) → (i = j ∧ b = p) ∨ (i ≠ j ∧ s.env[i]? = some (some (.own zs)) ∧ σ[i]? = some (some (.ref b))) := fun i zs b h1 h2 => by
      rcases get_set h1 with ⟨e1, _, e3⟩ | ⟨e, h1⟩
      · subst e1
        rw [List.getElem?_set_self (by rw [← ok.len]; exact e3)] at h2
        cases h2
        exact .inl ⟨rfl, rfl⟩
      · rw [List.getElem?_set_ne (Ne.symm e)] at h2
        exact .inr ⟨e, h1, h2⟩
    have inM : ∀ (i : Nat) zs, s.env[i]? = some (some (.own zs)) → σ[i]? = some (some (.ref p)) → False := fun i zs h1 h2 => by
      obtain ⟨a, _, h3, h4, _⟩ := ok.own i zs h1
      rw [h2] at h3
      cases h3
      exact nM h4
    rcases two i zs b q1 q3 with ⟨e1, e2⟩ | ⟨e1, h1, h2⟩
    · subst e2
      rcases two k ws b q2 q4 with ⟨e3, _⟩ | ⟨_, h3, h4⟩
      · exact n (e1.trans e3.symm)
      · exact inM k ws h3 h4
    · rcases two k ws b q2 q4 with ⟨e3, e4⟩ | ⟨_, h3, h4⟩
      · subst e4
        exact inM i zs h1 h2
      · exact ok.dis i k zs ws b n h1 h3 h2 h4
  · have q := ok.mu n b m q1 q2
    cases m with
    | lst xs => obtain ⟨vs, r1, r2⟩ := q; exact ⟨vs, r1, rpl r2⟩
    | ins C ns xs => obtain ⟨dx, vs, r1, r2, r3⟩ := q; exact ⟨dx, vs, r1, r2, rpl r3⟩
    | nst C ns xs => obtain ⟨dx, vs, r1, r2, r3⟩ := q; exact ⟨dx, vs, r1, r2, rpl r3⟩
    | dic ns xs => obtain ⟨vs, r1, r2, r9, r3⟩ := q; exact ⟨vs, r1, r2, r9, rpl r3⟩
  · rcases h with (h | h) | h | h
    · exact ok.there b (.inl h)
    · exact ok.there b (.inr (.inr (by rw [h]; exact List.mem_cons_self)))
    · exact ok.there b (.inr (.inl h))
    · exact ok.there b (.inr (.inr (List.mem_cons_of_mem _ h)))
  · rcases h with h | h
    · exact fun z => ok.mn b h (z.elim .inl fun z => .inr (List.mem_cons_of_mem _ z))
    · subst h
      exact fun z => z.elim hg hn
@[simp] def setσ : List Nat → List V → St → St
  | j :: js, v :: vs, σ => setσ js vs (σ.set j (some v))
  | _, _, σ => σ
theorem RepSV.imp {g' : Gx} {l' : Lc} (h : ∀ {x v}, RepG K g l x v → RepG K g' l' x v) (hl : ∀ {x v}, RepGL K g l x v → RepGL K g' l' x v) (hH : l'.H = l.H) : ∀ {svs : List SV} {us : List V} {P : List Addr}, RepSV K g l svs us P → RepSV K g' l' svs us P
  | [], us, P, q => q
  | .val v :: r, us, P, q => by
    obtain ⟨u, us', e, h1, h2⟩ := q
    exact ⟨u, us', e, h h1, RepSV.imp h hl hH h2⟩
  | .own xs :: r, us, P, q => by
    obtain ⟨p, vs, us', P', e1, e2, h1, h2, h3⟩ := q
    exact ⟨p, vs, us', P', e1, e2, by rw [hH]; exact h1, hl h2, RepSV.imp h hl hH h3⟩
theorem setAll : ∀ {js : List Nat} {svs : List SV} {us : List V} {P : List Addr} {l : Lc} {s s2 : S} {σ : St}, Sok K (g.hid P) l s σ → RepSV K (g.hid P) l svs us P → P.Nodup → (∀ p ∈ P, ¬ g.N p) → setX js svs s = some s2 →
    us.length = js.length ∧ ∃ l', l'.H = l.H ∧ l'.al = l.al ∧ (∀ a, l.M a → l'.M a) ∧ (∀ a, l'.M a → l.M a ∨ a ∈ P) ∧ Sok K g l' s2 (setσ js us σ)
  | [], [], us, P, l, s, s2, σ, ok, r, nd, hN, e => by
    obtain ⟨rfl, rfl⟩ := r
    cases e
    rw [Gx.hid_nil] at ok
    exact ⟨rfl, l, rfl, rfl, fun _ h => h, fun _ h => .inl h, ok⟩
  | [], v :: vs, us, P, l, s, s2, σ, ok, r, nd, hN, e => by simp at e
  | j :: js, [], us, P, l, s, s2, σ, ok, r, nd, hN, e => by simp at e
  | j :: js, .val v :: svs, us, P, l, s, s2, σ, ok, r, nd, hN, e => by
    obtain ⟨u, us', rfl, h1, h2⟩ := r
    have e : setX js svs (setE j v s) = some s2 := e
    obtain ⟨q1, l', q2, q3, q4, q5, q6⟩ := setAll (ok.set (i := j) h1) h2 nd hN e
    exact ⟨by simpa using q1, l', q2, q3, q4, q5, q6⟩
  | j :: js, .own xs :: svs, us, P, l, s, s2, σ, ok, r, nd, hN, e => by
    obtain ⟨p, vs, us', P', rfl, rfl, h1, h2, h3⟩ := r
    rw [List.nodup_cons] at nd
    obtain ⟨ok2, rp⟩ := ownHid (j := j) ok h1 h2 nd.1 (hN p List.mem_cons_self)
    have e : setX js svs ⟨s.env.set j (some (.own xs)), s.mu⟩ = some s2 := e
    have rpl : ∀ {x v}, RepGL K (g.hid (p :: P')) l x v → RepGL K (g.hid P') ⟨l.al, fun a => l.M a ∨ a = p, l.H⟩ x v := fun h => by
      rw [RepGL, RepL.iff] at h ⊢
      exact ⟨h.1, fun i y e => let ⟨w, h1, h2⟩ := h.2 i y e; ⟨w, h1, rp h2⟩⟩
    obtain ⟨q1, l', q2, q3, q4, q5, q6⟩ := setAll ok2 (RepSV.imp rp rpl rfl h3) nd.2 (fun a h => hN a (List.mem_cons_of_mem _ h)) e
    refine ⟨by simpa using q1, l', q2, q3, fun a h => q4 a (.inl h), fun a h => ?_, q6⟩
    rcases q5 a h with (z | z) | z
    · exact .inl z
    · exact .inr (by rw [z]; exact List.mem_cons_self)
    · exact .inr (List.mem_cons_of_mem _ z)
end
section
variable {X : Cx} {g : Gx} {a b c e : Expr} {es : List Expr} {da db dc de : DE} {dl : DL} {dx : DX} {pos : Pos}
theorem jx_nil : JX X g [] xNil := PA.cq pa_nil fun σ H Q q => by
  obtain ⟨l, s, rfl, ok, q⟩ := q
  exact q l [] [] (Step.refl l) (fun p h => by simp at h) List.nodup_nil (by rw [Gx.hid_nil]; exact ok) ⟨rfl, rfl⟩
theorem jx_val {dr : DX} (he : JE X g e de) (hr : JX X g es dr) (hs : starEach (e :: es) X.env = (false, eval e X.env) :: starEach es X.env := by rfl) : JX X g (e :: es) (xVal de dr) := PA.cq (pa_cons he hr hs) fun σ H Q q => by
  obtain ⟨l, s, rfl, ok, q⟩ := q
  refine ⟨l, s, rfl, ok, ?_⟩
  simp only [xVal] at q
  cases e1 : de s with
  | bad => rw [e1] at q; exact q
  | exn x t => rw [e1] at q; exact q
  | ok v t =>
    rw [e1] at q
    intro l1 u st1 ok1 r1
    refine ⟨l1, t, rfl, ok1, ?_⟩
    simp only [R.bind] at q
    cases e2 : dr t with
    | bad => rw [e2] at q; exact q
    | exn x t2 => rw [e2] at q; exact fun l' c d st' => q l' c d (st1.trans st')
    | ok svs t2 =>
      rw [e2] at q
      intro l2 us P st2 hP nd ok2 r2
      exact q l2 (u :: us) P (st1.trans st2) (fun p hp => by
        cases z : l.H p with
        | none => rfl
        | some o => exact absurd (hP p hp) (st1.dom p (by rw [z]; simp))) nd ok2 ⟨u, us, rfl, hid_repG st2 hP r1, r2⟩
theorem jx_own {dr : DX} (he : JF X g e dl) (hr : ∀ N, JX X ⟨g.CR, N, g.W⟩ es dr) (hs : starEach (e :: es) X.env = (false, eval e X.env) :: starEach es X.env := by rfl) : JX X g (e :: es) (xOwn dl dr) := by
  refine ⟨fun pos pins s0 σ H Q I q => ?_⟩
  obtain ⟨l, s, rfl, ok, q⟩ := q
  show wpAny (model X.prog X.w) X.A (spliced (backTo pos (starEach (e :: es) X.env))) _ X.xe s0
  -- the rest, read at any hidden part
  have rest : PA X es (fun σ H Q => ∃ N, LX X.K ⟨g.CR, N, g.W⟩ dr σ H Q) := ⟨fun pos pins s σ H Q I q => let ⟨N, q⟩ := q; (hr N).run pos pins s σ H Q I q⟩
  refine (pa_cons he rest hs).run pos pins s0 σ l.H Q I ⟨l, s, rfl, ok, ?_⟩
  simp only [xOwn] at q
  cases e1 : dl s with
  | bad => rw [e1] at q; exact q
  | exn x t => rw [e1] at q; exact q
  | ok xs t =>
    rw [e1] at q
    intro l1 us p st1 ok1 r1 hp
    have st1' : Step l1 ⟨l1.al, l1.M, upd l1.H p (.lst us)⟩ := Step.alloc hp
    have ne : ∀ a o, l1.H a = some o → a ≠ p := fun a o h => ne_of_none h hp
    refine ⟨fun a => g.N a ∨ a = p, ⟨l1.al, l1.M, upd l1.H p (.lst us)⟩, t, rfl, ok1.to rfl rfl rfl (fun a o _ h => by show upd l1.H p _ a = some o; rw [upd_ne (ne a o h)]; exact h) (fun a o n h z => z.elim n (ne a o h)) (fun a h => ?_), ?_⟩
    · show upd l1.H p _ a ≠ none
      rcases h with h | h | h
      · exact upd_there (ok1.there a (.inl h))
      · exact upd_there (ok1.there a (.inr h))
      · rw [h, upd_same]; simp
    · simp only [R.bind] at q
      cases e2 : dr t with
      | bad => rw [e2] at q; exact q
      | exn x t2 => rw [e2] at q; exact fun l' c d st' ok' rx => q l' c d ((st1.trans st1').trans st') (ok'.less fun a h => .inl h) (rx.less fun a h => .inl h)
      | ok svs t2 =>
        rw [e2] at q
        intro l2 us2 P st2 hP nd ok2 r2
        have np : p ∉ P := fun z => by
          have := hP p z
          have e : upd l1.H p (.lst us) p = none := this
          rw [upd_same] at e
          cases e
        have hP1 : ∀ a ∈ P, l1.H a = none := fun a h => by
          have e : upd l1.H p (.lst us) a = none := hP a h
          rw [upd_ne (fun z => np (by rw [← z]; exact h))] at e
          exact e
        have hP2 : ∀ a ∈ p :: P, l1.H a = none := fun a h => (List.mem_cons.mp h).elim (fun z => by rw [z]; exact hp) (hP1 a)
        have back : ∀ a, l1.H a = none → l.H a = none := fun a h => by
          cases z : l.H a with
          | none => rfl
          | some o => exact absurd h (st1.dom a (by rw [z]; simp))
        rw [Gx.hid_cons] at ok2 r2
        have nM : ¬ l1.M p := fun z => ok1.there p (.inl z) hp
        exact q l2 (.ref p :: us2) (p :: P) ((st1.trans st1').trans st2) (fun a h => back a (hP2 a h)) (List.nodup_cons.mpr ⟨np, nd⟩) ok2 ⟨p, us, us2, P, rfl, rfl, st2.keep p _ nM upd_same, hid_repGL (st1'.trans st2) hP2 r1, r2⟩
end
end L3
namespace L3
open PySem
open Sem (wp)
open AutoSeq1 (wpAny_loadPart')
theorem meets_enum_newT (l : Addr) (ys : Array Value) (n : Nat) (dc0 : Option Addr) (sl0 : Array (Option Value)) :
    Meets (Builtin.«enumerate.__new__» ⟨[.type "enumerate", .ref l], []⟩) (fun _ R s => s.heap.get? l = some { cls := .type "tuple", dict := dc0, data := .seq ys n, slots := sl0 } ∧
      R (.ok (.ret (.ref (s.heap.push { cls := .type "tuple_iterator", data := .fields #[.ref l, .int 0 0] }).objs.size)))
        { s with heap := (s.heap.push { cls := .type "tuple_iterator", data := .fields #[.ref l, .int 0 0] }).push { cls := .type "enumerate", data := .fields #[.none, .bool false, .ref s.heap.objs.size, rawInt 0, .none, .none] } }) :=
  Meets.of_wp fun pg wl ar R s h => by
    obtain ⟨hp0, g, d, tk0, os0⟩ := s; obtain ⟨hat, h⟩ := h
    have hsubE := sub_enumerate
    have hLt : Heap.IsTuple (Shared.heap ⟨hp0, g, d, tk0, os0⟩) l ys := ⟨_, hat, rfl, n, rfl⟩
    wp_walk using wpAny_loadPart' hat
    refine wpAny_stack_any (fun _ => wpAny_pure ?_)
    split
    · rename_i c _ _ _ _ _
      rcases (c == Value.type "enumerate") with _ | _
      · wp_walk using wpAny_loadPart' hat, wpAny_pyIter_tuple hLt
        exact ⟨_, rfl, h⟩
      · wp_walk using wpAny_loadPart' hat, wpAny_pyIter_tuple hLt
        exact ⟨_, rfl, h⟩
    · wp_walk using wpAny_loadPart' hat, wpAny_pyIter_tuple hLt
      exact ⟨_, rfl, h⟩
section
variable {prog : Program} {w : World} {A : Around} {E : Value → Shared → Prop} {s : Shared}
theorem call_enum_tuple {l : Addr} {ys : Array Value} {Q : Value → Shared → Prop} (hLt : s.heap.IsTuple l ys)
    (h : ∀ g1, IsEnum g1 (s.heap.objs.size + 1) s.heap.objs.size 0 .none → g1.IsTupleIter s.heap.objs.size l 0 → g1.objs.size = s.heap.objs.size + 2 →
      (∀ b o, s.heap.get? b = some o → g1.get? b = some o) → Q (.ref (s.heap.objs.size + 1)) { s with heap := g1 }) :
    wpAny (model prog w) A (call (.type "enumerate") [.ref l]) Q E s := by
  obtain ⟨⟨c, dc0, dt0, sl0⟩, hat, hcls, n, hda⟩ := hLt
  replace hcls : c = .type "tuple" := hcls
  replace hda : dt0 = .seq ys n := hda
  subst hcls hda
  refine callType_new F.called_enumerate (by decide) (F.typeCall_enumerate_1 _) (F.newCall_enumerate_1 _) (fun obj => F.args_object_init_2 obj _) F.entry_enumerate_new
    (meets_enum_newT l ys n dc0 sl0) ⟨hat, ?_⟩
  have hz : (s.heap.push { cls := .type "tuple_iterator", data := .fields #[.ref l, .int 0 0] }).objs.size = s.heap.objs.size + 1 := Heap.size_push ..
  show _ ∧ _
  rw [hz]
  have heA : IsEnum ((s.heap.push { cls := .type "tuple_iterator", data := .fields #[.ref l, .int 0 0] }).push
      { cls := .type "enumerate", data := .fields #[.none, .bool false, .ref s.heap.objs.size, rawInt 0, .none, .none] }) (s.heap.objs.size + 1) s.heap.objs.size 0 .none := by
    have := Heap.get?_push_size (s.heap.push { cls := .type "tuple_iterator", data := .fields #[.ref l, .int 0 0] })
      (o := { cls := .type "enumerate", data := .fields #[.none, .bool false, .ref s.heap.objs.size, rawInt 0, .none, .none] }) rfl
    rw [hz] at this; exact this
  refine ⟨⟨_, heA, rfl⟩, h _ heA ⟨_, Heap.get?_push_of_some _ (Heap.get?_push_size _ rfl), rfl, rfl⟩ (by rw [Heap.size_push, hz]) fun b o x => Heap.get?_push_of_some _ (Heap.get?_push_of_some _ x)⟩
theorem draws_tup {l it : Addr} {ys : Array Value} (hhd : A.handled = none) (hne : l ≠ it) : Draws prog w A it [it, l] ys.size (fun i x => ys[i]? = some x) (fun i h => h.IsTupleIter it l i ∧ h.IsTuple l ys) where
  live := fun i h stk => let ⟨⟨o, e, _⟩, _⟩ := stk; ⟨o, e⟩
  frame := fun i h g1 stk k => by
    obtain ⟨stk, o, e, r⟩ := stk
    exact ⟨stk.at fun o q => k it (by simp) o q, o, k l (by simp) o e, r⟩
  item := fun i s Q E hi stk hQ0 => by
    obtain ⟨stk, ht⟩ := stk
    refine RZ.nextOf_tuple_item stk ht (x := ys[i]) (by simp [hi]) fun g1 stB sb => ?_
    obtain ⟨o, e, r⟩ := ht
    exact hQ0 _ g1 s.toks (by simp [hi]) ⟨stB, o, (sb.2 l hne).trans e, r⟩ sb
  done := fun s Q E stk hE => by
    obtain ⟨stk, ht⟩ := stk
    exact RZ.nextOf_tuple_end hhd stk ht (by simp) hE
theorem pyNext_enumT_end {e it l : Addr} {i : Nat} {ys : Array Value} {old : Value} {Q : Option Value → Shared → Prop} (hhd : A.handled = none)
    (heA : IsEnum s.heap e it i old) (hItA : s.heap.IsTupleIter it l i) (hat : s.heap.IsTuple l ys) (hxL : ys[i]? = none)
    (hQ0 : ∀ g1, Heap.ExtBut it s.heap g1 → Q none { s with heap := g1 }) : wpAny (model prog w) A (pyNext (.ref e)) Q E s := by
  have hTe : s.TypeIs (.ref e) "enumerate" := ⟨_, heA, rfl⟩
  unfold pyNext
  refine wpAny_bind (wpAny_attempt (wpAny_callSpecial?_slot (name := Str.ofString "__next__") hTe F.slot_enumerate_next
    (wpAny_call_entry F.slot_enumerate_next hTe F.entry_enumerate_next ?_ (F.args_enumerate_next_1 _))))
  show wpAny _ _ (field (.ref e) 2 >>= _) _ _ _
  refine wpAny_bind (wpAny_field heA rfl (x := .ref it) rfl ?_)
  refine wpAny_bind (RZ.nextOf_tuple_end hhd hItA hat hxL fun g1 x heB hxB => ?_)
  obtain ⟨o, ho0, hcls⟩ := hxB
  refine wpAny_bind (wpAny_isInstance (T := "StopIteration") (b := true) ⟨o, ho0, hcls⟩ isSubtype_stop ?_)
  exact wpAny_pure (hQ0 _ heB)
end
end L3
namespace L3
open PySem PySem.Spec PyProof.Rows L2
def IteT (K : PySem.W.Frag) (a : Addr) : It :=
  ⟨fun i H => ∃ (xs : List V) (x : V), SqT K H a xs ∧ xs[i]? = some x, fun i H v H' => ∃ T x, v = .ref T ∧ H T = none ∧ H' = upd H T (.tup [.int (i : Nat), x]) ∧ ∀ xs, SqT K H a xs → xs[i]? = some x, fun i H => ∃ xs : List V, SqT K H a xs ∧ xs.length ≤ i⟩
theorem turn_enumT {P : Program} {w : World} {K : PySem.W.Frag} {elts : List Expr} {kk : Nat} {tpos : Pos} (a e it : Addr) :
    Turn P w K (.Tuple elts kk tpos) (IteT K a) [e, it] e (fun i h => (∃ old, IsEnum h e it ((i : Nat) : Int) old) ∧ h.IsTupleIter it a i ∧ e ≠ it ∧ a ≠ it ∧ e ≠ a) where
  mem := by simp
  obj := fun i h st b hb => by
    obtain ⟨⟨old, heA⟩, ⟨o, ho, hc, hd⟩, _⟩ := st
    have eb1 : b = e ∨ b = it := by simpa using hb
    rcases eb1 with z | z
    · rw [z]; exact ⟨_, heA, fun v q => nomatch q⟩
    · rw [z]; exact ⟨o, ho, fun v q => by rw [hd] at q; cases q⟩
  keep := fun i h g1 st k => let ⟨⟨old, heA⟩, hi, hne⟩ := st; ⟨⟨old, k e (by simp) _ heA⟩, hi.at fun o q => k it (by simp) o q, hne⟩
  item := by
    intro X hPr hw hK hc i pins s σ H E I hfL st hg
    subst hPr hw hK
    obtain ⟨⟨old, heA⟩, hItA, hne, hai, hea⟩ := st
    obtain ⟨xs, x, hqL, hxL⟩ := hg
    obtain ⟨arr, rvl, p, hz⟩ := I.tuple hqL
    obtain ⟨u, hu, ru⟩ := rvl.get hxL
    have heL : e < s.heap.objs.size := Heap.lt_size heA
    have hiL : it < s.heap.objs.size := by obtain ⟨_, q, _⟩ := hItA; exact Heap.lt_size q
    have hlt : i < arr.toArray.size := by
      rw [List.size_toArray]
      exact (List.getElem?_eq_some_iff.mp hu).1
    refine wpAny_pyNext_enum_itemD (draws_tup (A := X.A.in1) (I.ok.hd hc) hai) heA ⟨hItA, show s.heap.IsTuple a arr.toArray from p⟩ hlt hne (by simp [hne, hea]) fun x' g1 tk hP' ho hItB hTy hSz hKp => ?_
    have ex : x' = u := by
      have h1 : arr[i]? = some x' := by simpa using hP'
      rw [h1] at hu
      exact (Option.some.inj hu)
    subst ex
    refine ⟨_, rfl, wpAny_letOwnedTupleGo_enum (s := { s with heap := g1, toks := tk + 1 }) ho fun g2 heB sb => ?_⟩
    have hTyB : g2.get? s.heap.objs.size = some { cls := .type "tuple", data := .seq #[.int i tk, x'] } := (sb.2 _ (Nat.ne_of_gt heL)).trans hTy
    have new : ObjOk X.prog X.w (upd H s.heap.objs.size (.tup [.int (i : Nat), x])) g2 s.heap.objs.size (.tup [.int (i : Nat), x]) :=
      ⟨by show 2 ≤ sizeLine; decide, [.int i tk, x'], .cons ⟨_, rfl⟩ (.cons ru .nil), ⟨_, hTyB, rfl, _, rfl⟩⟩
    have Inv1 : Inv X pins σ (upd H s.heap.objs.size (.tup [.int (i : Nat), x])) { s with heap := g2, toks := tk + 1 } :=
      I.turnedNew (ch := [e, it]) (fun b ob hb q => (sb.2 b (fun z => hb (by simp [z]))).trans (hKp b ob (fun z => hb (by simp [z])) (fun z => hb (by simp [z])) q)) hfL (Nat.le_refl _) new
    refine ⟨.ref s.heap.objs.size, _, Inv1, rfl, ⟨_, x, rfl, I.hok.fresh (Nat.le_refl _), rfl, fun ys hy => by rw [I.tuple_inj hy hqL]; exact hxL⟩, ⟨⟨x', ?_⟩, hItB.1.at fun o q => (sb.2 it (Ne.symm hne)).trans q, hne, hai, hea⟩, fun b hb => ?_⟩
    · have e1 : ((i + 1 : Nat) : Int) = (i : Int) + 1 := by omega
      rw [e1]; exact heB
    · have hbL : b < s.heap.objs.size := by
        have eb1 : b = e ∨ b = it := by simpa using hb
        rcases eb1 with z | z
        · rw [z]; exact heL
        · rw [z]; exact hiL
      rw [upd_ne (Nat.ne_of_lt hbL)]
      exact (hfL b hb).1
  done := by
    intro X hPr hw hK hc i pins s σ H E I hfL st hg
    subst hPr hw hK
    obtain ⟨⟨old, heA⟩, hItA, hne, hai, hea⟩ := st
    obtain ⟨xs, hqL, hxL⟩ := hg
    obtain ⟨arr, rvl, p, hz⟩ := I.tuple hqL
    obtain ⟨w0, w1, w2, w3, w4, w5⟩ := hfL it (by simp)
    have hl := rvl.length
    exact pyNext_enumT_end (I.ok.hd hc) heA hItA (show s.heap.IsTuple a arr.toArray from p) (by simp; omega) fun g1 eb => ⟨rfl, I.turned (t' := s.toks) (fun b o hb q => eb b o hb q) w0 w1 w3 w4 w5⟩
  self := fun A i s Q E st h => let ⟨⟨_, heA⟩, _⟩ := st; wpAny_pyIter_enum heA h
def iEnumA (K : PySem.W.Frag) (ta : TA) : TI := fun σ H R => ta σ H fun vs H1 => ∃ a xs, vs = [.ref a] ∧ ((SqL K H1 a xs ∧ R (Ite K a) H1) ∨ (SqT K H1 a xs ∧ R (IteT K a) H1))
theorem pi_enumA {X : Cx} {e : Expr} {ta : TA} {p pos tpos : Pos} {elts : List Expr} {kk : Nat} (hg : Gl X "enumerate") (hm : X.mg "enumerate" = none) (ha : PA X [e] ta) (hs : starEach [e] X.env = [(false, eval e X.env)] := by rfl) :
    PI X (.Tuple elts kk tpos) (.Call (.Name "enumerate" p) [e] [] pos) (iEnumA X.K ta) := by
  refine ⟨fun pins s σ H R I h => ?_⟩
  refine Call_ (ld_blt I hg hm boot_enumerate (PyProof.Rows.callWith_type1 (thn (ha.run pos pins s σ H _ I h) fun us s1 ⟨vs, H1, Inv1, r1, qq⟩ => ?_) hs rfl))
  obtain ⟨a, xs, ex, hqL⟩ := qq
  subst ex
  cases r1 with
  | cons r rr =>
    cases rr
    cases r
    have fpsL : ∀ b, b = s1.heap.objs.size + 1 ∨ b = s1.heap.objs.size → s1.heap.objs.size ≤ b := fun b eb1 => by
      rcases eb1 with z | z
      · rw [z]; exact Nat.le_add_right _ _
      · rw [z]; exact Nat.le_refl _
    rcases hqL with ⟨hqL, q⟩ | ⟨hqL, q⟩
    · obtain ⟨arr, rvl, pB, hz⟩ := Inv1.list hqL
      refine call_enumerate_list pB.isList fun g1 heA hItA hSz hKp => wpAny_pyIter_enum heA ?_
      have Inv2 : Inv X pins σ H1 { s1 with heap := g1 } := Inv1.kept (t' := s1.toks) hKp
      refine ⟨s1.heap.objs.size + 1, [s1.heap.objs.size + 1, s1.heap.objs.size], _, _, H1, rfl, Inv2, turn_enum a (s1.heap.objs.size + 1) s1.heap.objs.size, ⟨⟨.none, heA⟩, hItA, Nat.succ_ne_self _⟩, fun b hb => ?_, q⟩
      have hle := fpsL b (by simpa using hb)
      exact Inv1.fpOk hle (Inv1.hok.fresh hle)
    · obtain ⟨arr, rvl, pB, hz⟩ := Inv1.tuple hqL
      have hla : a < s1.heap.objs.size := by
        obtain ⟨o, e, _⟩ := (show s1.heap.IsTuple a arr.toArray from pB)
        exact Heap.lt_size e
      refine call_enum_tuple (show s1.heap.IsTuple a arr.toArray from pB) fun g1 heA hItA hSz hKp => wpAny_pyIter_enum heA ?_
      have Inv2 : Inv X pins σ H1 { s1 with heap := g1 } := Inv1.kept (t' := s1.toks) hKp
      refine ⟨s1.heap.objs.size + 1, [s1.heap.objs.size + 1, s1.heap.objs.size], _, _, H1, rfl, Inv2, turn_enumT a (s1.heap.objs.size + 1) s1.heap.objs.size, ⟨⟨.none, heA⟩, hItA, Nat.succ_ne_self _, Nat.ne_of_lt hla, Nat.ne_of_gt (Nat.lt_succ_of_lt hla)⟩, fun b hb => ?_, q⟩
      have hle := fpsL b (by simpa using hb)
      exact Inv1.fpOk hle (Inv1.hok.fresh hle)
section
variable {g : Gx}
theorem it_enumT {K : PySem.W.Frag} {l0 : Lc} {a : Addr} {vs : List V} {xs : List PV} (hn : ∀ l, Step l0 l → SqT K l.H a vs) (rvl : RepGL K g l0 xs vs) : ItOk K g l0 (IteT K a) (enumP xs) := fun i g' l st ec hN th => by
  have h1 := hn l st
  have hl : (enumP xs).length = xs.length := by simp [enumP]
  refine ⟨fun x hxL => ?_, fun hxL => ⟨vs, h1, by rw [← rvl.length, ← hl]; exact hxL⟩⟩
  obtain ⟨y, hy, rfl⟩ := enumP_get hxL
  obtain ⟨v, hv, r⟩ := rvl.get hy
  refine ⟨⟨vs, v, h1, hv⟩, fun u H' z => ?_⟩
  obtain ⟨T, w, rfl, hTy, rfl, z⟩ := z
  have ew : w = v := by have := z vs h1; rw [hv] at this; exact (Option.some.inj this).symm
  subst ew
  exact ⟨upd_keep hTy, fun l1 ea eM eH => pair_rep hTy (fun z => th T z hTy) ea eM eH rfl (st.rep2 ec hN r)⟩
@[simp] def iEnumQ (d : DA) : DI := fun s => (d s).bind fun vs s1 => match vs with
  | [.lst xs] => .ok (enumP xs) s1
  | [.tup xs] => .ok (enumP xs) s1
  | _ => .bad
variable {X : Cx} {a : Expr} {dr : DA} {pos : Pos}
theorem ji_enumA {p tpos : Pos} {elts : List Expr} {kk : Nat} (ha : JA X g [a] dr) (hm : X.mg "enumerate" = none) (hg : Gl X "enumerate" := by rfl) (hs : starEach [a] X.env = [(false, eval a X.env)] := by rfl) : JI X g (.Tuple elts kk tpos) (.Call (.Name "enumerate" p) [a] [] pos) (iEnumQ dr) :=
  PI.cq (pi_enumA hg hm ha hs) fun pins s σ H Q I q => by
    obtain ⟨l, s, rfl, ok, q⟩ := q
    refine ⟨l, s, rfl, ok, ?_⟩
    simp only [iEnumQ] at q
    cases e1 : dr s with
    | bad => rw [e1] at q; exact q
    | exn e t => rw [e1] at q; exact q
    | ok vs t =>
      rw [e1] at q
      intro l1 us st1 ok1 r1
      simp only [R.bind] at q
      split at q
      · rename_i e2
        split at e2
        · rename_i xs
          cases e2
          obtain ⟨v, r, rfl, h1, h2⟩ := r1
          cases (show r = [] from h2)
          obtain ⟨b, ws, rfl, n, hb, rb⟩ := h1
          exact ⟨b, ws, rfl, .inl ⟨SqL.of hb, q l1 _ st1 ok1 (it_enum (fun l st => lst_stays (fun z => n (.inl z)) hb st) rb)⟩⟩
        · rename_i xs
          cases e2
          obtain ⟨v, r, rfl, h1, h2⟩ := r1
          cases (show r = [] from h2)
          obtain ⟨b, ws, rfl, hb, rb⟩ := h1
          refine ⟨b, ws, rfl, .inr ⟨SqT.of2 hb, q l1 _ st1 ok1 (it_enumT (fun l st => ?_) rb)⟩⟩
          rcases hb with ⟨n, hb⟩ | hb
          · exact .inl (Rd.keep (fun o e => st.keep b o (fun z => n (.inl z)) e) hb)
          · exact .inr hb
        · cases e2
      · rename_i e2
        split at e2 <;> cases e2
      · exact q.elim
end
end L3
namespace L3
open PySem PySem.Spec PyProof.Rows L2
/-- a def of the text, known by a global name -/
def Has (P : Program) (w : World) (K : PySem.W.Frag) (mg : Str → Option Value) (base : Heap) (CR : Addr) (x : Str) (k : Nat) (ps : List Str) (F : DF) : Prop :=
  ∃ f fd, mg x = some (.ref f) ∧ PySem.W.keepIn K (.ref f) = true ∧ Binds K fd ps [] ∧ FJ P w K mg base CR k f fd ps F
/-- a def at an address -/
def At (P : Program) (w : World) (K : PySem.W.Frag) (mg : Str → Option Value) (base : Heap) (CR f : Addr) (k : Nat) (ps : List Str) (F : DF) : Prop :=
  ∃ fd, Binds K fd ps [] ∧ FJ P w K mg base CR k f fd ps F
theorem Has.imp {P : Program} {w : World} {K : PySem.W.Frag} {mg : Str → Option Value} {base : Heap} {CR : Addr} {x : Str} {k : Nat} {ps : List Str} {F F' : DF} (h : Has P w K mg base CR x k ps F) (b : Below ps.length F' F) : Has P w K mg base CR x k ps F' :=
  let ⟨f, fd, h1, h2, h3, h4⟩ := h
  ⟨f, fd, h1, h2, h3, h4.imp b⟩
theorem At.imp {P : Program} {w : World} {K : PySem.W.Frag} {mg : Str → Option Value} {base : Heap} {CR f : Addr} {k : Nat} {ps : List Str} {F F' : DF} (h : At P w K mg base CR f k ps F) (b : Below ps.length F' F) : At P w K mg base CR f k ps F' :=
  let ⟨fd, h3, h4⟩ := h
  ⟨fd, h3, h4.imp b⟩
section
variable {X : Cx} {g : Gx} {a b c e : Expr} {es : List Expr} {da db dc de : DE} {dr : DA} {pos p : Pos} {x : Str} {f : Addr} {k n : Nat} {ps : List Str} {F : DF}
theorem At.kj (h : At X.prog X.w X.K X.mg X.base g.CR f k ps F) (hr : Room k X.A) (tk : Takes X g.W) : KJ X g f (fun qs s => if qs.length = ps.length then fnS F qs s else .bad) :=
  let ⟨fd, hb, G⟩ := h
  k_fn ps.length G hr hb tk
theorem At.ka (h : At X.prog X.w X.K X.mg X.base g.CR f k ps F) (tk : Takes X g.W) : KA X g k f (fun qs s => if qs.length = ps.length then fnS F qs s else .bad) :=
  let ⟨fd, hb, G⟩ := h
  ka_fn ps.length G hb tk
/-- how a call looks when the number of arguments is right -/
theorem KJ.of {fn fn' : List PV → S → R S PV} (h : KJ X g f fn) (i : ∀ qs s, fn' qs s = .bad ∨ fn qs s = fn' qs s) : KJ X g f fn' := fun pins s σ xs vs Q l st qs I rv ok rp run => by
  rcases i qs st with e | e
  · rw [e] at run; exact run.elim
  · exact h pins s σ xs vs Q l st qs I rv ok rp (by rw [e]; exact run)
/-- f(e, ..) -/
theorem j_callH (h : Has X.prog X.w X.K X.mg X.base g.CR x k ps F) (hr : Room k X.A) (tk : Takes X g.W) (ha : JA X g (e :: es) dr) (hn : Ln dr n := by repeat (first | with_reducible exact Ln.nil | with_reducible apply Ln.cons)) (hl : n = ps.length := by rfl) (hg : Gl X x := by rfl)
    (hdb : (x == ("__debug__" : Str)) = false := by decide) (he : starEach (e :: es) X.env = (false, eval e X.env) :: starEach es X.env := by rfl) (hpl : (backTo pos (starEach es X.env)).any (·.1) = false := by rfl) :
    JE X g (.Call (.Name x p) (e :: es) [] pos) (dFnS F dr) :=
  let ⟨_, _, hm, hk, hb, G⟩ := h
  j_call G hr hm hk hb tk ha hg (hl ▸ hn) hdb he hpl
theorem At.jr (h : At X.prog X.w X.K X.mg X.base g.CR f k ps F) (hr : Room k X.A) (tk : Takes X g.W) (n : Nat) (hn : n = ps.length := by rfl) : KJ X g f (fun qs s => if qs.length = n then fnS F qs s else .bad) := by
  subst hn
  exact h.kj hr tk
def intsP : List PV → Option (List Int)
  | [] => some []
  | .int i :: r => (match intsP r with | some is => some (i :: is) | none => none)
  | _ => none
theorem intsP_rep {K : PySem.W.Frag} {CR : Addr} {al : List Addr} {L : Addr → Prop} {H : Hp} : ∀ {xs : List PV} {is : List Int} {vs : List V}, intsP xs = some is → RepL K CR al L H xs vs → vs = is.map V.int
  | [], is, vs, e, r => by cases e; exact r
  | x :: xs, is, vs, e, r => by
    obtain ⟨v, w, rfl, h1, h2⟩ := r
    cases x with
    | int i =>
      unfold intsP at e
      cases q : intsP xs with
      | none => rw [q] at e; cases e
      | some js =>
        rw [q] at e
        cases e
        rw [intsP_rep q h2, show v = .int i from h1]; rfl
    | _ => cases e
@[simp] def fSumI : List PV → S → R S PV := fun ps s => match ps with
  | [.lst xs] => (match intsP xs with
    | some is => .ok (.int is.sum) s
    | none => .bad)
  | _ => .bad
theorem c_sumI (hc : X.calm = true) : CJ X g (fun us => call (.builtin "sum") us) fSumI := CJ.of (cr_sum hc) fun l st σ ps xs Q ok rp run => by
  unfold fSumI at run
  split at run
  · rename_i ys
    split at run
    · rename_i is e
      obtain ⟨v, r, rfl, h1, h2⟩ := rp
      cases (show r = [] from h2)
      obtain ⟨a, vs, rfl, _, ha, ra⟩ := h1
      exact ⟨a, is, rfl, by rw [← intsP_rep e ra]; exact SqL.of ha, run l _ (Step.refl l) ok rfl⟩
    · exact run.elim
  · exact run.elim
@[simp] def fIsB (neg : Bool) : PV → PV → S → R S PV := fun p q s => match p, q with
  | .bl a, .bl b => .ok (.bl (xor neg (decide (a = b)))) s
  | _, _ => .bad
theorem j_gint {i : Int} {u : Value} (hm : X.mg x = some u) (r : RelV (.int i) u) (hg : Gl X x := by rfl) (hd : (x == ("__debug__" : Str)) = false := by decide) : JE X g (.Name x pos) (dC (.int i)) := jc (pe_glob hg hm r hd) fun _ => rfl
end
end L3
namespace L3
open PySem PySem.Spec PyProof.Rows L2
theorem OJ.below {X : Cx} {g : Gx} {fn : Value → Value → Sem Value} {f f' : PV → PV → S → R S PV} (h : OJ X g fn f) (i : ∀ p q s, f' p q s = .bad ∨ f p q s = f' p q s) : OJ X g fn f' := fun pins s σ x y v u Q l st p q I rx ry ok rp rq run => by
  rcases i p q st with e | e
  · rw [e] at run; exact run.elim
  · exact h pins s σ x y v u Q l st p q I rx ry ok rp rq (by rw [e]; exact run)
@[simp] def gAdd : PV → PV → S → R S PV := fun p q s => match p, q with
  | .int i, .int j => .ok (.int (i + j)) s
  | .lst xs, .lst ys => if xs.length + ys.length ≤ 16777216 then .ok (.lst (xs ++ ys)) s else .bad
  | .tup xs, .tup ys => if xs.length + ys.length ≤ 16777216 then .ok (.tup (xs ++ ys)) s else .bad
  | .str x, .str y => if x.length + y.length ≤ 16777216 then .ok (.str (x ++ y)) s else .bad
  | _, _ => .bad
@[simp] def gSub : PV → PV → S → R S PV := fun p q s => match p, q with
  | .int i, .int j => .ok (.int (i - j)) s
  | _, _ => .bad
@[simp] def gMul : PV → PV → S → R S PV := fun p q s => match p, q with
  | .int i, .int j => if ib i + ib j ≤ 1000000 then .ok (.int (i * j)) s else .bad
  | .lst xs, .int k => if -(2 ^ 63) ≤ k ∧ k < 2 ^ 63 ∧ xs.length * k.toNat ≤ 16777216 then .ok (.lst (List.replicate k.toNat xs).flatten) s else .bad
  | _, _ => .bad
@[simp] def gFdiv : PV → PV → S → R S PV := fun p q s => match p, q with
  | .int i, .int j => if 0 < j ∧ ib j ≤ 9000 then .ok (.int (i / j)) s else if j < 0 ∧ j.natAbs < 1073741824 then .ok (.int (i.fdiv j)) s else .bad
  | _, _ => .bad
@[simp] def gMod : PV → PV → S → R S PV := fun p q s => match p, q with
  | .int i, .int j => if j ≠ 0 then .ok (.int (i.fmod j)) s else .bad
  | _, _ => .bad
@[simp] def gPow : PV → PV → S → R S PV := fun p q s => match p, q with
  | .int i, .int j => if 0 ≤ j ∧ j ≤ 1000000 ∧ i.natAbs < 2 ^ 64 then .ok (.int (i ^ j.toNat)) s else .bad
  | _, _ => .bad
@[simp] def gLt : PV → PV → S → R S PV := fun p q s => match p, q with
  | .int i, .int j => .ok (.bl (decide (i < j))) s
  | _, _ => .bad
@[simp] def gLe : PV → PV → S → R S PV := fun p q s => match p, q with
  | .int i, .int j => .ok (.bl (decide (i ≤ j))) s
  | _, _ => .bad
@[simp] def gGt : PV → PV → S → R S PV := fun p q s => match p, q with
  | .int i, .int j => .ok (.bl (decide (j < i))) s
  | _, _ => .bad
@[simp] def gGe : PV → PV → S → R S PV := fun p q s => match p, q with
  | .int i, .int j => .ok (.bl (decide (j ≤ i))) s
  | _, _ => .bad
mutual
def okD : Nat → PV → Bool
  | _, .non => true
  | _, .bl _ => true
  | _, .int _ => true
  | _, .str x => SeqAt.shaped (.str x)
  | n + 1, .tup xs => okDL n xs
  | n + 1, .lst xs => okDL n xs
  | n + 1, .frz xs => okDL n xs
  | _, _ => false
def okDL : Nat → List PV → Bool
  | _, [] => true
  | n, x :: xs => okD n x && okDL n xs
end
mutual
def eqP : PV → PV → Bool
  | .non, .non => true
  | .bl a, .bl b => a == b
  | .bl a, .int j => (if a then 1 else 0) == j
  | .int i, .bl b => i == (if b then 1 else 0)
  | .int i, .int j => i == j
  | .str x, .str y => x == y
  | .tup xs, .tup ys => eqPL xs ys
  | .lst xs, .lst ys => eqPL xs ys
  | .lst xs, .frz ys => eqPL xs ys
  | .frz xs, .lst ys => eqPL xs ys
  | .frz xs, .frz ys => eqPL xs ys
  | _, _ => false
def eqPL : List PV → List PV → Bool
  | [], [] => true
  | x :: xs, y :: ys => eqP x y && eqPL xs ys
  | _, _ => false
end
mutual
theorem okD_dat : ∀ (n : Nat) (p : PV), okD n p = true → ∃ d, p.dat = some d ∧ d.canLay0 = true ∧ d.depth ≤ n
  | n, .non, _ => ⟨_, rfl, rfl, Nat.zero_le _⟩
  | n, .bl _, _ => ⟨_, rfl, rfl, Nat.zero_le _⟩
  | n, .int _, _ => ⟨_, rfl, rfl, Nat.zero_le _⟩
  | n, .str x, h => by
    have h : SeqAt.shaped (.str x) = true := by cases n <;> exact h
    exact ⟨_, rfl, SeqAt.canLay_of_shaped h, Nat.zero_le _⟩
  | n + 1, .tup xs, h => by
    obtain ⟨ds, h1, h2, h3⟩ := okDL_dat n xs (by unfold okD at h; exact h)
    exact ⟨.tuple ds, by unfold PV.dat; rw [h1], h2, Nat.succ_le_succ h3⟩
  | n + 1, .lst xs, h => by
    obtain ⟨ds, h1, h2, h3⟩ := okDL_dat n xs (by unfold okD at h; exact h)
    exact ⟨.list ds, by unfold PV.dat; rw [h1], h2, Nat.succ_le_succ h3⟩
  | n + 1, .frz xs, h => by
    obtain ⟨ds, h1, h2, h3⟩ := okDL_dat n xs (by unfold okD at h; exact h)
    exact ⟨.list ds, by unfold PV.dat; rw [h1], h2, Nat.succ_le_succ h3⟩
  | 0, .tup xs, h => by unfold okD at h; cases h
  | 0, .lst xs, h => by unfold okD at h; cases h
  | 0, .frz xs, h => by unfold okD at h; cases h
  | n, .rat _, h => by cases n <;> (unfold okD at h; cases h)
  | n, .obj _ _ _, h => by cases n <;> (unfold okD at h; cases h)
  | n, .ptr _, h => by cases n <;> (unfold okD at h; cases h)
  | n, .adr _, h => by cases n <;> (unfold okD at h; cases h)
  | n, .ty _, h => by cases n <;> (unfold okD at h; cases h)
  | n, .dk _ _, h => by cases n <;> (unfold okD at h; cases h)
  | n, .dt _ _, h => by cases n <;> (unfold okD at h; cases h)
  | n, .exc _ _ _, h => by cases n <;> (unfold okD at h; cases h)
theorem okDL_dat : ∀ (n : Nat) (xs : List PV), okDL n xs = true → ∃ ds, PV.datL xs = some ds ∧ PyData.canLayAll0 ds = true ∧ PyData.depthAll ds ≤ n
  | n, [], _ => ⟨[], rfl, rfl, Nat.zero_le _⟩
  | n, x :: xs, h => by
    have h : (okD n x && okDL n xs) = true := by unfold okDL at h; exact h
    rw [Bool.and_eq_true] at h
    obtain ⟨d, h1, h2, h3⟩ := okD_dat n x h.1
    obtain ⟨ds, g1, g2, g3⟩ := okDL_dat n xs h.2
    refine ⟨d :: ds, by unfold PV.datL; rw [h1, g1], ?_, ?_⟩
    · show (d.canLay0 && PyData.canLayAll0 ds) = true
      rw [h2, g2]; rfl
    · show max d.depth (PyData.depthAll ds) ≤ n
      exact Nat.max_le.mpr ⟨h3, g3⟩
end
mutual
theorem eqP_ok : ∀ (p q : PV) (d e : PyData), p.dat = some d → q.dat = some e → PyData.eqv d e = eqP p q
  | .non, q, d, e, h1, h2 => by
    cases h1
    cases q <;> first | (cases h2; rfl) | (unfold PV.dat at h2; split at h2 <;> first | (cases h2; rfl) | cases h2) | cases h2
  | .bl a, q, d, e, h1, h2 => by
    cases h1
    cases q <;> first | (cases h2; rfl) | (unfold PV.dat at h2; split at h2 <;> first | (cases h2; rfl) | cases h2) | cases h2
  | .int a, q, d, e, h1, h2 => by
    cases h1
    cases q <;> first | (cases h2; rfl) | (unfold PV.dat at h2; split at h2 <;> first | (cases h2; rfl) | cases h2) | cases h2
  | .str a, q, d, e, h1, h2 => by
    cases h1
    cases q <;> first | (cases h2; rfl) | (unfold PV.dat at h2; split at h2 <;> first | (cases h2; rfl) | cases h2) | cases h2
  | .tup xs, q, d, e, h1, h2 => by
    unfold PV.dat at h1
    split at h1
    · rename_i ds e1
      cases h1
      cases q with
      | tup ys =>
        unfold PV.dat at h2
        split at h2
        · rename_i es e2
          cases h2
          show PyData.eqvAll ds es = eqP (.tup xs) (.tup ys)
          rw [eqPL_ok xs ys ds es e1 e2]; simp only [eqP]
        · cases h2
      | lst ys => unfold PV.dat at h2; split at h2 <;> first | (cases h2; simp only [eqP]; rfl) | cases h2
      | frz ys => unfold PV.dat at h2; split at h2 <;> first | (cases h2; simp only [eqP]; rfl) | cases h2
      | non => cases h2; simp only [eqP]; rfl
      | bl b => cases h2; simp only [eqP]; rfl
      | int b => cases h2; simp only [eqP]; rfl
      | str b => cases h2; simp only [eqP]; rfl
      | _ => cases h2
    · cases h1
  | .lst xs, q, d, e, h1, h2 => by
    unfold PV.dat at h1
    split at h1
    · rename_i ds e1
      cases h1
      cases q with
      | lst ys =>
        unfold PV.dat at h2
        split at h2
        · rename_i es e2
          cases h2
          show PyData.eqvAll ds es = eqP (.lst xs) (.lst ys)
          rw [eqPL_ok xs ys ds es e1 e2]; simp only [eqP]
        · cases h2
      | frz ys =>
        unfold PV.dat at h2
        split at h2
        · rename_i es e2
          cases h2
          show PyData.eqvAll ds es = eqP (.lst xs) (.frz ys)
          rw [eqPL_ok xs ys ds es e1 e2]; simp only [eqP]
        · cases h2
      | tup ys => unfold PV.dat at h2; split at h2 <;> first | (cases h2; simp only [eqP]; rfl) | cases h2
      | non => cases h2; simp only [eqP]; rfl
      | bl b => cases h2; simp only [eqP]; rfl
      | int b => cases h2; simp only [eqP]; rfl
      | str b => cases h2; simp only [eqP]; rfl
      | _ => cases h2
    · cases h1
  | .frz xs, q, d, e, h1, h2 => by
    unfold PV.dat at h1
    split at h1
    · rename_i ds e1
      cases h1
      cases q with
      | lst ys =>
        unfold PV.dat at h2
        split at h2
        · rename_i es e2
          cases h2
          show PyData.eqvAll ds es = eqP (.frz xs) (.lst ys)
          rw [eqPL_ok xs ys ds es e1 e2]; simp only [eqP]
        · cases h2
      | frz ys =>
        unfold PV.dat at h2
        split at h2
        · rename_i es e2
          cases h2
          show PyData.eqvAll ds es = eqP (.frz xs) (.frz ys)
          rw [eqPL_ok xs ys ds es e1 e2]; simp only [eqP]
        · cases h2
      | tup ys => unfold PV.dat at h2; split at h2 <;> first | (cases h2; simp only [eqP]; rfl) | cases h2
      | non => cases h2; simp only [eqP]; rfl
      | bl b => cases h2; simp only [eqP]; rfl
      | int b => cases h2; simp only [eqP]; rfl
      | str b => cases h2; simp only [eqP]; rfl
      | _ => cases h2
    · cases h1
  | .rat _, _, _, _, h1, _ => nomatch h1
  | .obj _ _ _, _, _, _, h1, _ => nomatch h1
  | .ptr _, _, _, _, h1, _ => nomatch h1
  | .adr _, _, _, _, h1, _ => nomatch h1
  | .ty _, _, _, _, h1, _ => nomatch h1
theorem eqPL_ok : ∀ (xs ys : List PV) (ds es : List PyData), PV.datL xs = some ds → PV.datL ys = some es → PyData.eqvAll ds es = eqPL xs ys
  | [], [], ds, es, h1, h2 => by cases h1; cases h2; simp only [eqPL]; rfl
  | [], y :: ys, ds, es, h1, h2 => by
    cases h1
    unfold PV.datL at h2
    split at h2
    · cases h2; simp only [eqPL]; rfl
    · cases h2
  | x :: xs, [], ds, es, h1, h2 => by
    cases h2
    unfold PV.datL at h1
    split at h1
    · cases h1; simp only [eqPL]; rfl
    · cases h1
  | x :: xs, y :: ys, ds, es, h1, h2 => by
    unfold PV.datL at h1 h2
    split at h1
    · rename_i d ds' e1 e2
      cases h1
      split at h2
      · rename_i e es' e3 e4
        cases h2
        show (PyData.eqv d e && PyData.eqvAll ds' es') = eqPL (x :: xs) (y :: ys)
        rw [eqP_ok x y d e e1 e3, eqPL_ok xs ys ds' es' e2 e4]; simp only [eqPL]
      · cases h2
    · cases h1
end
@[simp] def gEqD (neg : Bool) : PV → PV → S → R S PV := fun p q s => if okD 8 p = true ∧ okD 8 q = true then .ok (.bl (xor neg (eqP p q))) s else .bad
theorem gEqD_ok (neg : Bool) (p q : PV) (s : S) : gEqD neg p q s = .bad ∨ fEqD neg p q s = gEqD neg p q s := by
  unfold gEqD
  by_cases h : okD 8 p = true ∧ okD 8 q = true
  · obtain ⟨d, d1, d2, d3⟩ := okD_dat 8 p h.1
    obtain ⟨e, e1, e2, e3⟩ := okD_dat 8 q h.2
    refine .inr ?_
    rw [if_pos h]
    unfold fEqD
    rw [d1, e1]
    have sd : SeqAt.shaped d = true := by unfold SeqAt.shaped; rw [d2, Bool.true_and]; exact decide_eq_true (by omega)
    have se : SeqAt.shaped e = true := by unfold SeqAt.shaped; rw [e2, Bool.true_and]; exact decide_eq_true (by omega)
    show (if SeqAt.shaped d = true ∧ SeqAt.shaped e = true then _ else _) = _
    rw [if_pos ⟨sd, se⟩, eqP_ok p q d e d1 e1]
  · rw [if_neg h]; exact .inl rfl
section
variable {X : Cx} {g : Gx}
theorem o_add : OJ X g (binaryOp .Add) gAdd := ((o_addI).or (o_catL.or (o_catT.or o_catS))).below fun p q s => by cases p <;> first | exact .inl rfl | (cases q <;> first | exact .inl rfl | exact .inr rfl | (simp only [gAdd, orB, fI2]; split <;> simp))
theorem o_sub : OJ X g (binaryOp .Sub) gSub := o_subI.below fun p q s => by cases p <;> first | exact .inl rfl | (cases q <;> first | exact .inl rfl | exact .inr rfl)
theorem o_mul : OJ X g (binaryOp .Mult) gMul := (o_mulI.or o_repL).below fun p q s => by cases p <;> first | exact .inl rfl | (cases q <;> first | exact .inl rfl | exact .inr rfl | (simp only [gMul, orB, fI2, FMul]; split <;> simp_all))
theorem o_fdiv : OJ X g (binaryOp .FloorDiv) gFdiv := o_fdivI.below fun p q s => by cases p <;> first | exact .inl rfl | (cases q <;> first | exact .inl rfl | exact .inr rfl | (simp only [gFdiv, fI2, FFdiv]; split <;> first | exact .inr rfl | (split <;> first | exact .inr rfl | exact .inl rfl)))
theorem o_mod : OJ X g (binaryOp .Mod) gMod := o_modI.below fun p q s => by cases p <;> first | exact .inl rfl | (cases q <;> first | exact .inl rfl | exact .inr rfl | (simp only [gMod, fI2, FMod]; split <;> first | exact .inr rfl | exact .inl rfl))
theorem o_pow : OJ X g (binaryOp .Pow) gPow := o_powI.below fun p q s => by cases p <;> first | exact .inl rfl | (cases q <;> first | exact .inl rfl | exact .inr rfl | (simp only [gPow, fI2, FPow]; split <;> first | exact .inr rfl | exact .inl rfl))
theorem o_ltI : OJ X g (compareOp .Lt) gLt := o_lt.below fun p q s => by cases p <;> first | exact .inl rfl | (cases q <;> first | exact .inl rfl | exact .inr rfl)
theorem o_gtI : OJ X g (compareOp .Gt) gGt := o_gt.below fun p q s => by cases p <;> first | exact .inl rfl | (cases q <;> first | exact .inl rfl | exact .inr rfl)
theorem o_geI : OJ X g (compareOp .GtE) gGe := o_ge.below fun p q s => by cases p <;> first | exact .inl rfl | (cases q <;> first | exact .inl rfl | exact .inr rfl)
theorem o_eq (hu : X.A.units + 64 < cLine) : OJ X g (compareOp .Eq) (gEqD false) := (o_eqD hu).below fun p q s => gEqD_ok false p q s
theorem o_ne (hu : X.A.units + 64 < cLine) : OJ X g (compareOp .NotEq) (gEqD true) := (o_neD hu).below fun p q s => gEqD_ok true p q s
end
@[simp] def fuI (i : Nat) : S → Nat := fun s => match s.env[i]? with
  | some (some (.val (.int n))) => n.natAbs + 1
  | _ => 0
@[simp] def fuL (i : Nat) : S → Nat := fun s => match s.env[i]? with
  | some (some (.own xs)) => xs.length + 1
  | some (some (.val (.lst xs))) => xs.length + 1
  | _ => 0
end L3
namespace L3
open PySem PySem.Spec PyProof.Rows L2
@[simp] def bInt : TP → Option Bool
  | .int => some true | .bl => some true | .cls _ => none | .nam _ => none | _ => some false
@[simp] def bBool : TP → Option Bool
  | .bl => some true | .cls _ => none | .nam _ => none | _ => some false
@[simp] def bStr : TP → Option Bool
  | .str => some true | .cls _ => none | .nam _ => none | _ => some false
@[simp] def bTup : TP → Option Bool
  | .tup => some true | .cls _ => none | .nam _ => none | _ => some false
@[simp] def bLst : TP → Option Bool
  | .lst => some true | .cls _ => none | .nam _ => none | _ => some false
@[simp] def bRat : TP → Option Bool
  | .rat => some true | .cls _ => none | .nam _ => none | _ => some false
theorem kisi_ok {K : PySem.W.Frag} (h : kisiB K = true) : KIsi K := by
  obtain ⟨h1, h2⟩ := He.ba h
  exact ⟨He.eqO_ok h1, of_decide_eq_true h2⟩
theorem clsI_ok {K : PySem.W.Frag} {C : Addr} (c : Cls K C) (h : clsIB K C = true) : ClsI K C := by
  obtain ⟨h1, h2⟩ := He.ba h
  exact ⟨c, He.eqO_ok h1, of_decide_eq_true h2⟩
structure IsiR (K : PySem.W.Frag) (CR : Addr) : Prop where
  kk : KIsi K
  int : IsiK K CR (.type "int") bInt
  bool : IsiK K CR (.type "bool") bBool
  str : IsiK K CR (.type "str") bStr
  tup : IsiK K CR (.type "tuple") bTup
  lst : IsiK K CR (.type "list") bLst
  rat : IsiK K CR (.ref CR) bRat
theorem isiR_ok {K : PySem.W.Frag} {CR : Addr} (k : kisiB K = true) (c : ClsI K CR) (h : isiB K CR = true) : IsiR K CR := by
  obtain ⟨h1, h⟩ := He.ba h
  obtain ⟨h2, h⟩ := He.ba h
  obtain ⟨h3, h⟩ := He.ba h
  obtain ⟨h4, h⟩ := He.ba h
  obtain ⟨h5, h⟩ := He.ba h
  obtain ⟨h6, h7⟩ := He.ba h
  have h7' : ∀ t ∈ ["NoneType", "bool", "int", "str", "tuple", "list", "dict"], PySem.W.kitOne K (.type t) (.ref CR) = some false := fun t ht => of_decide_eq_true (List.all_eq_true.mp h7 t ht)
  have cc : ∀ {tp : TP} {C : Addr}, (∀ D, tp ≠ .cls D) → (∀ D, tp ≠ .nam D) → (tp = .cls C ∨ (tp = .rat ∧ C = CR) ∨ ∃ c, tp = .nam c ∧ C = He.ga K c) → ClsI K C := fun n n2 z => by
    rcases z with z | ⟨_, z⟩ | ⟨_, z, _⟩
    · exact absurd z (n _)
    · rw [z]; exact c
    · exact absurd z (n2 _)
  refine ⟨kisi_ok k, ?_, ?_, ?_, ?_, ?_, ?_⟩
  · intro tp r e
    cases tp <;> first
      | (cases e; exact ⟨kit_ty (by decide +kernel), fun C z => cc (by intro D y; cases y) (by intro D y; cases y) z⟩)
      | (cases e; exact ⟨of_decide_eq_true h1, fun C z => cc (by intro D y; cases y) (by intro D y; cases y) z⟩)
      | cases e
  · intro tp r e
    cases tp <;> first
      | (cases e; exact ⟨kit_ty (by decide +kernel), fun C z => cc (by intro D y; cases y) (by intro D y; cases y) z⟩)
      | (cases e; exact ⟨of_decide_eq_true h2, fun C z => cc (by intro D y; cases y) (by intro D y; cases y) z⟩)
      | cases e
  · intro tp r e
    cases tp <;> first
      | (cases e; exact ⟨kit_ty (by decide +kernel), fun C z => cc (by intro D y; cases y) (by intro D y; cases y) z⟩)
      | (cases e; exact ⟨of_decide_eq_true h3, fun C z => cc (by intro D y; cases y) (by intro D y; cases y) z⟩)
      | cases e
  · intro tp r e
    cases tp <;> first
      | (cases e; exact ⟨kit_ty (by decide +kernel), fun C z => cc (by intro D y; cases y) (by intro D y; cases y) z⟩)
      | (cases e; exact ⟨of_decide_eq_true h4, fun C z => cc (by intro D y; cases y) (by intro D y; cases y) z⟩)
      | cases e
  · intro tp r e
    cases tp <;> first
      | (cases e; exact ⟨kit_ty (by decide +kernel), fun C z => cc (by intro D y; cases y) (by intro D y; cases y) z⟩)
      | (cases e; exact ⟨of_decide_eq_true h5, fun C z => cc (by intro D y; cases y) (by intro D y; cases y) z⟩)
      | cases e
  · intro tp r e
    cases tp <;> first
      | (cases e; exact ⟨h7' _ (by simp), fun C z => cc (by intro D y; cases y) (by intro D y; cases y) z⟩)
      | (cases e; exact ⟨of_decide_eq_true h6, fun C z => cc (by intro D y; cases y) (by intro D y; cases y) z⟩)
      | cases e
/-- Ratio(..) -/
def HasR (P : Program) (w : World) (K : PySem.W.Frag) (mg : Str → Option Value) (base : Heap) (CR : Addr) (k : Nat) (okb : Int → Int → Bool) : Prop :=
  mg "Ratio" = some (.ref CR) ∧ ∃ f fd one, Mk K CR f ∧ Binds K fd ["self", "top", "bottom"] [] ∧ Binds K fd ["self", "top", "bottom"] [one] ∧ RelV (.int 1) one ∧ FJ P w K mg base CR k f fd ["self", "top", "bottom"] (FInit CR okb)
section
variable {X : Cx} {g : Gx} {a b c e : Expr} {es : List Expr} {da db dc de : DE} {dr : DA} {pos p : Pos} {x : Str} {f : Addr} {k n : Nat} {ps : List Str} {F : DF} {okb : Int → Int → Bool}
theorem j_callR (h : HasR X.prog X.w X.K X.mg X.base g.CR k okb) (hr : Room (k + 1) X.A) (ha : JA X g (e :: es) dr) (hg : Gl X "Ratio" := by rfl)
    (he : starEach (e :: es) X.env = (false, eval e X.env) :: starEach es X.env := by rfl) (hpl : (backTo pos (starEach es X.env)).any (·.1) = false := by rfl) : JE X g (.Call (.Name "Ratio" p) (e :: es) [] pos) (dFn (fMakeR okb) dr) :=
  let ⟨hm, _, _, _, M, hb, hb1, h1, G⟩ := h
  j_callG (c_makeR M G hr hb hb1 h1) hg hm M.kp ha (by decide) he hpl
theorem j_isR (E : IsiR X.K g.CR) (hR : X.mg "Ratio" = some (.ref g.CR)) (hm : X.mg "isinstance" = none) (ha : JE X g a da) (hg : Gl X "isinstance" := by rfl) (hg2 : Gl X "Ratio" := by rfl)
    (h1 : starEach [a, .Name "Ratio" p] X.env = (false, eval a X.env) :: starEach [.Name "Ratio" p] X.env := by rfl) (h2 : starEach [.Name "Ratio" p] X.env = (false, eval (.Name "Ratio" p) X.env) :: starEach [] X.env := by rfl) (hpl : (backTo pos (starEach [.Name "Ratio" p] X.env)).any (·.1) = false := by rfl) {q : Pos} :
    JE X g (.Call (.Name "isinstance" q) [a, .Name "Ratio" p] [] pos) (dUn (fIsi bRat) da) := j_isi E.kk E.rat (.own g.CR) ha (pe_glob hg2 hR rfl) hg hm h1 h2 hpl
theorem j_isT {T : String} {y : Str} {bb : TP → Option Bool} (kk : KIsi X.K) (ii : IsiK X.K g.CR (.type T) bb) (hy : X.mg y = none) (hv : bootBuiltins y = some (.type T)) (hm : X.mg "isinstance" = none) (ha : JE X g a da) (hg : Gl X "isinstance" := by rfl) (hg2 : Gl X y := by rfl) (hn : y ≠ "__name__" := by decide) (hd : (y == ("__debug__" : Str)) = false := by decide)
    (h1 : starEach [a, .Name y p] X.env = (false, eval a X.env) :: starEach [.Name y p] X.env := by rfl) (h2 : starEach [.Name y p] X.env = (false, eval (.Name y p) X.env) :: starEach [] X.env := by rfl) (hpl : (backTo pos (starEach [.Name y p] X.env)).any (·.1) = false := by rfl) {q : Pos} :
    JE X g (.Call (.Name "isinstance" q) [a, .Name y p] [] pos) (dUn (fIsi bb) da) := j_isi kk ii (.ty T) ha (pe_bltn (v := .ty T) hg2 hy hv rfl hn hd) hg hm h1 h2 hpl
end
end L3
namespace L3
open PySem PySem.Spec PyProof.Rows L2
def F_top : DF := fun ps mu => match ps with
  | [.rat q] => .ok (.int q.num) mu
  | _ => .bad
def F_bottom : DF := fun ps mu => match ps with
  | [.rat q] => .ok (.int q.den) mu
  | _ => .bad
@[simp] def fMt (n : Nat) (F : DF) : List PV → S → R S PV := fun qs s => if qs.length = n then fnS F qs s else .bad
@[simp] def fCm (n : Nat) (CR : Addr) (F : DF) : List PV → S → R S PV := fun qs s => if qs.length + 1 = n then fnS F (.adr CR :: qs) s else .bad
def HasP (P : Program) (w : World) (K : PySem.W.Frag) (mg : Str → Option Value) (base : Heap) (CR : Addr) (fl : Str) (k : Nat) (F : DF) : Prop :=
  ∃ pA gA fd, PropOf K CR fl pA gA ∧ Binds K fd ["self"] [] ∧ FJ P w K mg base CR k gA fd ["self"] F
section
variable {X : Cx} {g : Gx} {a b c e o : Expr} {es : List Expr} {da db dc de dob : DE} {dr : DA} {pos p apos : Pos} {x m : Str} {f : Addr} {k : Nat} {ps : List Str} {F : DF}
theorem JE.eq {d d' : DE} (h : JE X g e d) (i : ∀ s, d' s = d s) : JE X g e d' := (funext i : d' = d) ▸ h
theorem j_ptop (h : HasP X.prog X.w X.K X.mg X.base g.CR "top" k F_top) (T : ClsR X.K g.CR) (hr : Room (k + 1) X.A) (he : JE X g e de) (hab : attributeBase e "top" X.env (eval e X.env) = eval e X.env := by rfl) : JE X g (.Attribute e "top" pos) (dUn fTop de) :=
  let ⟨_, _, _, hp, hb, G⟩ := h
  (j_propR T hp G hr hb he hab).eq fun s => by
    show (de s).bind _ = (de s).bind _
    congr 1
theorem j_pbot (h : HasP X.prog X.w X.K X.mg X.base g.CR "bottom" k F_bottom) (T : ClsR X.K g.CR) (hr : Room (k + 1) X.A) (he : JE X g e de) (hab : attributeBase e "bottom" X.env (eval e X.env) = eval e X.env := by rfl) : JE X g (.Attribute e "bottom" pos) (dUn fBot de) :=
  let ⟨_, _, _, hp, hb, G⟩ := h
  (j_propR T hp G hr hb he hab).eq fun s => by
    show (de s).bind _ = (de s).bind _
    congr 1
end
end L3
namespace L3
open PySem PySem.Spec PyProof.Rows L2
@[simp] def setP : List Nat → List PV → S → Option S
  | [], [], s => some s
  | j :: js, v :: vs, s => setP js vs (setE j v s)
  | _, _, _ => none
@[simp] def dPar (js : List Nat) (d : DA) : DS := fun s => (d s).bind fun vs s1 => match setP js vs s1 with
  | some s2 => .ok .nx s2
  | none => .bad
theorem setP_ok {K : PySem.W.Frag} {g : Gx} {l : Lc} : ∀ {js : List Nat} {ps : List PV} {us : List V} {s s2 : S} {σ : St}, Sok K g l s σ → RepGL K g l ps us → setP js ps s = some s2 → us.length = js.length ∧ Sok K g l s2 (setσ js us σ)
  | [], [], us, s, s2, σ, ok, r, e => by
    cases (show us = [] from r)
    cases e
    exact ⟨rfl, ok⟩
  | j :: js, p :: ps, us, s, s2, σ, ok, r, e => by
    obtain ⟨u, w, rfl, h1, h2⟩ := r
    obtain ⟨q1, q2⟩ := setP_ok (ok.set (i := j) h1) h2 (show setP js ps (setE j p s) = some s2 from e)
    exact ⟨by simpa using q1, q2⟩
  | [], p :: ps, us, s, s2, σ, ok, r, e => by simp at e
  | j :: js, [], us, s, s2, σ, ok, r, e => by simp at e
theorem par_reads {K : PySem.W.Frag} {g : Gx} {js : List Nat} {dr : DA} {D : Ends} {σ : St} {H : Hp} (q : LS K g (dPar js dr) D σ H) : LA K g dr σ H (fun us H1 => us.length = js.length ∧ D.nx (setσ js us σ) H1) := by
  obtain ⟨l, s, rfl, ok, q⟩ := q
  refine ⟨l, s, rfl, ok, ?_⟩
  simp only [dPar] at q
  cases e1 : dr s with
  | bad => rw [e1] at q; exact q
  | exn x t => rw [e1] at q; exact fun l' c d => q l' σ c d
  | ok vs t =>
    rw [e1] at q
    simp only [R.bind] at q
    cases e2 : setP js vs t with
    | none => rw [e2] at q; exact q.elim
    | some s2 =>
      rw [e2] at q
      intro l' us st ok' r'
      obtain ⟨h1, h2⟩ := setP_ok ok' r' e2
      exact ⟨h1, q l' _ st h2⟩
theorem parX_reads {K : PySem.W.Frag} {g : Gx} {js : List Nat} {dx : DX} {D : Ends} {σ : St} {H : Hp} (q : LS K g (dAsgX js dx) D σ H) : LX K g dx σ H (fun us H1 => us.length = js.length ∧ D.nx (setσ js us σ) H1) := by
  obtain ⟨l, s, rfl, ok, q⟩ := q
  refine ⟨l, s, rfl, ok, ?_⟩
  simp only [dAsgX] at q
  cases e1 : dx s with
  | bad => rw [e1] at q; exact q
  | exn x t => rw [e1] at q; exact fun l' c d => q l' σ c d
  | ok svs t =>
    rw [e1] at q
    simp only [R.bind] at q
    cases e2 : setX js svs t with
    | none => rw [e2] at q; exact q.elim
    | some s2 =>
      rw [e2] at q
      intro l' us P st hP nd ok' r'
      have hgN : ∀ p ∈ P, ¬ g.N p := fun p hp z => ok.there p (.inr z) (hP p hp)
      obtain ⟨hlen, l2, f1, f2, f3, f4, ok2⟩ := setAll ok' r' nd hgN e2
      refine ⟨hlen, ?_⟩
      have st2 : Step l l2 := ⟨by rw [f2]; exact st.pre, fun a h => by
        rcases f4 a h with z | z
        · exact st.new a z
        · exact .inr (hP a z), fun a o n e => by rw [f1]; exact st.keep a o n e, fun a h => by rw [f1]; exact st.dom a h⟩
      have := q l2 (setσ js us σ) st2 ok2
      rw [← f1]
      exact this
section
variable {X : Cx} {g : Gx} {a b c e : Expr} {es : List Expr} {da db dc de : DE} {dr : DA} {dx : DX} {pos : Pos} {i j l : Nat} {x y z : Str} {px py pz pt : Pos} {kt k2 : _} {pt2 : Pos}
theorem par2 {t : TA} {D : Ends} {σ : St} {H : Hp} {i j : Nat} (h : t σ H (fun us H1 => us.length = 2 ∧ D.nx (setσ [i, j] us σ) H1)) (m : ∀ σ H Q Q', (∀ us H1, Q us H1 → Q' us H1) → t σ H Q → t σ H Q') : tPar i j t D σ H := m _ _ _ _ (fun us H1 q => by
  obtain ⟨q1, q2⟩ := q
  match us, q1 with
  | [v, w], _ => exact ⟨v, w, rfl, q2⟩) h
theorem par3 {t : TA} {D : Ends} {σ : St} {H : Hp} {i j l : Nat} (h : t σ H (fun us H1 => us.length = 3 ∧ D.nx (setσ [i, j, l] us σ) H1)) (m : ∀ σ H Q Q', (∀ us H1, Q us H1 → Q' us H1) → t σ H Q → t σ H Q') : tPar3 i j l t D σ H := m _ _ _ _ (fun us H1 q => by
  obtain ⟨q1, q2⟩ := q
  match us, q1 with
  | [u, v, w], _ => exact ⟨u, v, w, rfl, q2⟩) h
theorem LA.mono {K : PySem.W.Frag} (σ : St) (H : Hp) (Q Q' : List V → Hp → Prop) (i : ∀ us H1, Q us H1 → Q' us H1) (h : LA K g dr σ H Q) : LA K g dr σ H Q' := let ⟨l, s, e, ok, q⟩ := h; ⟨l, s, e, ok, RunA.mono q i⟩
theorem LX.mono {K : PySem.W.Frag} (σ : St) (H : Hp) (Q Q' : List V → Hp → Prop) (i : ∀ us H1, Q us H1 → Q' us H1) (h : LX K g dx σ H Q) : LX K g dx σ H Q' := by
  obtain ⟨l, s, e, ok, q⟩ := h
  refine ⟨l, s, e, ok, ?_⟩
  cases e1 : dx s with
  | bad => rw [e1] at q; exact q
  | exn x t => rw [e1] at q; exact q
  | ok svs t => rw [e1] at q; exact fun l' us P a b c d f => i _ _ (q l' us P a b c d f)
theorem js_par2 (hc : X.calm = true) (hN : X.N.Nodup) (ha : JA X g [a, b] dr) (hi : X.N[i]? = some x := by rfl) (hj : X.N[j]? = some y := by rfl) (hij : i ≠ j := by decide) (hx : X.env.scope.names.lookup x = some .local := by rfl) (hy : X.env.scope.names.lookup y = some .local := by rfl)
    (hw : swappedStores [.Tuple [.Name x px, .Name y py] kt pt] (.Tuple [a, b] k2 pt2) X.env = pure (some [x, y]) := by rfl) (hs : swapsWithSole [.Tuple [.Name x px, .Name y py] kt pt] (.Tuple [a, b] k2 pt2) pos.line X.env = pure false := by rfl) :
    JS X g (.Assign [.Tuple [.Name x px, .Name y py] kt pt] (.Tuple [a, b] k2 pt2) pos) (dPar [i, j] dr) :=
  PS.cq (ps_par hc hN hi hj hij hx hy ha hw hs) fun pins s D σ H I q => par2 (par_reads q) LA.mono
theorem js_parX3 (hc : X.calm = true) (hN : X.N.Nodup) (ha : JX X g [a, b, c] dx) (hi : X.N[i]? = some x := by rfl) (hj : X.N[j]? = some y := by rfl) (hl : X.N[l]? = some z := by rfl) (hij : i ≠ j := by decide) (hil : i ≠ l := by decide) (hjl : j ≠ l := by decide)
    (hx : X.env.scope.names.lookup x = some .local := by rfl) (hy : X.env.scope.names.lookup y = some .local := by rfl) (hz : X.env.scope.names.lookup z = some .local := by rfl)
    (hw : swappedStores [.Tuple [.Name x px, .Name y py, .Name z pz] kt pt] (.Tuple [a, b, c] k2 pt2) X.env = pure (some [x, y, z]) := by rfl) (hs : swapsWithSole [.Tuple [.Name x px, .Name y py, .Name z pz] kt pt] (.Tuple [a, b, c] k2 pt2) pos.line X.env = pure false := by rfl) :
    JS X g (.Assign [.Tuple [.Name x px, .Name y py, .Name z pz] kt pt] (.Tuple [a, b, c] k2 pt2) pos) (dAsgX [i, j, l] dx) :=
  PS.cq (ps_par3 hc hN hi hj hl hij hil hjl hx hy hz ha hw hs) fun pins s D σ H I q => par3 (parX_reads q) LX.mono
end
end L3
namespace L3
open PySem PySem.Spec PyProof.Rows L2
section
variable {prog : Program} {w : World} {A : Around} {E : Value → Shared → Prop} {s : Shared} {a b : Addr} {xs ys : Array Value} {Q : Value → Shared → Prop}
theorem rc_empty (hl : s.heap.IsList a xs) (hb : s.heap.IsList b ys) (hu : A.units < cLine) (h0 : xs.size = 0 ∨ ys.size = 0) (h : Q (.bool (xs.size == ys.size)) s) : wpAny (model prog w) A (richCompare .Eq (.ref a) (.ref b)) Q E s := by
  obtain ⟨⟨c1, d1, t1, l1⟩, o1, e1, n1, f1⟩ := id hl
  obtain ⟨⟨c2, d2, t2, l2⟩, o2, e2, n2, f2⟩ := id hb
  simp only at e1 f1 e2 f2
  subst e1 f1 e2 f2
  have ta : s.TypeIs (.ref a) "list" := ⟨_, o1, rfl⟩
  refine wpAny_richCompare_same_room (op := .Eq) ta ⟨_, o2, rfl⟩ F.slot_list_eq ?_ hu
  by_cases z : xs.size = ys.size
  · refine call_meets F.slot_list_eq ta F.entry_list_eq (F.args_list_eq_2 _ _) (SeqAt.list_eqAt a b xs ys n1 n2 d1 d2 l1 l2 z (fun _ => true)) ⟨o1, o2, fun j h1 h2 => absurd h0 (by omega), ?_⟩
    have e : (List.range xs.size).all (fun _ => true) = (xs.size == ys.size) := by simp [z]
    rw [e]
    exact ⟨(fun x => nomatch x), h⟩
  · have z' : (xs.size != ys.size) = true := by simpa using z
    refine call_meets F.slot_list_eq ta F.entry_list_eq (F.args_list_eq_2 _ _) (SeqAt.list_eq_lengthsAt a b xs ys n1 n2 d1 d2 l1 l2 z') ⟨o1, o2, ?_⟩
    have e : (xs.size == ys.size) = false := by simpa using z
    rw [e] at h
    exact ⟨(fun x => nomatch x), h⟩
theorem rn_empty (hl : s.heap.IsList a xs) (hb : s.heap.IsList b ys) (hu : A.units < cLine) (h0 : xs.size = 0 ∨ ys.size = 0) (h : Q (.bool (!(xs.size == ys.size))) s) : wpAny (model prog w) A (richCompare .NotEq (.ref a) (.ref b)) Q E s := by
  obtain ⟨⟨c1, d1, t1, l1⟩, o1, e1, n1, f1⟩ := id hl
  obtain ⟨⟨c2, d2, t2, l2⟩, o2, e2, n2, f2⟩ := id hb
  simp only at e1 f1 e2 f2
  subst e1 f1 e2 f2
  have ta : s.TypeIs (.ref a) "list" := ⟨_, o1, rfl⟩
  refine wpAny_richCompare_same_room (op := .NotEq) ta ⟨_, o2, rfl⟩ F.slot_list_ne ?_ hu
  by_cases z : xs.size = ys.size
  · refine call_meets F.slot_list_ne ta F.entry_list_ne (F.args_list_ne_2 _ _) (SeqAt.list_neAt a b xs ys n1 n2 d1 d2 l1 l2 z (fun _ => true)) ⟨o1, o2, fun j h1 h2 => absurd h0 (by omega), ?_⟩
    have e : (List.range xs.size).all (fun _ => true) = (xs.size == ys.size) := by simp [z]
    rw [e]
    exact ⟨(fun x => nomatch x), h⟩
  · have z' : (xs.size != ys.size) = true := by simpa using z
    refine call_meets F.slot_list_ne ta F.entry_list_ne (F.args_list_ne_2 _ _) (SeqAt.list_ne_lengthsAt a b xs ys n1 n2 d1 d2 l1 l2 z') ⟨o1, o2, ?_⟩
    have e : (xs.size == ys.size) = false := by simpa using z
    rw [e] at h
    exact ⟨(fun x => nomatch x), h⟩
end
def fEqE (neg : Bool) : PV → PV → S → R S PV := fun p q s => match p, q with
  | .lst xs, .lst ys => if xs.length = 0 ∨ ys.length = 0 then .ok (.bl (xor neg (xs.length == ys.length))) s else .bad
  | .str a, .str b => .ok (.bl (xor neg (a == b))) s
  | _, _ => .bad
theorem dec_strV {a b : Str} : decide (V.str a = V.str b) = (a == b) := by
  rw [Bool.eq_iff_iff]
  simp
section
variable {X : Cx} {g : Gx}
theorem o_eqE (hu : X.A.units + 64 < cLine) : OJ X g (compareOp .Eq) (fEqE false) := by
  intro pins s σ x y v u Q l st p q I rx ry ok rp rq run
  unfold fEqE at run
  split at run
  · rename_i xs ys
    split at run
    · rename_i h0
      obtain ⟨a, vs, rfl, _, ha, ra⟩ := rp
      obtain ⟨b, ws, rfl, _, hb, rb⟩ := rq
      cases (show v = .ref a from rx)
      cases (show u = .ref b from ry)
      obtain ⟨its, rv, p1, _⟩ := I.list (SqL.of ha)
      obtain ⟨its2, rv2, p2, _⟩ := I.list (SqL.of hb)
      have l1 : its.toArray.size = _ := (List.size_toArray ..).trans (rv.length.symm.trans ra.length.symm)
      have l2 : its2.toArray.size = _ := (List.size_toArray ..).trans (rv2.length.symm.trans rb.length.symm)
      refine rc_empty p1.isList p2.isList (by omega) (by rw [l1, l2]; exact h0) ?_
      rw [l1, l2]
      have z := run l (.bl (xor false (xs.length == ys.length))) (Step.refl l) ok rfl
      rw [Bool.false_xor] at z
      exact ⟨.bl (xs.length == ys.length), l.H, I, rfl, z⟩
    · exact run.elim
  · rename_i a b
    have z := run l (.bl (xor false (a == b))) (Step.refl l) ok rfl
    cases (show x = .str a from rp)
    cases (show y = .str b from rq)
    refine op_eq pins s σ l.H _ _ v u Q I rx ry ⟨rfl, ?_⟩
    rw [dec_strV]
    rw [Bool.false_xor] at z
    exact z
  · exact run.elim
theorem o_neE (hu : X.A.units + 64 < cLine) : OJ X g (compareOp .NotEq) (fEqE true) := by
  intro pins s σ x y v u Q l st p q I rx ry ok rp rq run
  unfold fEqE at run
  split at run
  · rename_i xs ys
    split at run
    · rename_i h0
      obtain ⟨a, vs, rfl, _, ha, ra⟩ := rp
      obtain ⟨b, ws, rfl, _, hb, rb⟩ := rq
      cases (show v = .ref a from rx)
      cases (show u = .ref b from ry)
      obtain ⟨its, rv, p1, _⟩ := I.list (SqL.of ha)
      obtain ⟨its2, rv2, p2, _⟩ := I.list (SqL.of hb)
      have l1 : its.toArray.size = _ := (List.size_toArray ..).trans (rv.length.symm.trans ra.length.symm)
      have l2 : its2.toArray.size = _ := (List.size_toArray ..).trans (rv2.length.symm.trans rb.length.symm)
      refine rn_empty p1.isList p2.isList (by omega) (by rw [l1, l2]; exact h0) ?_
      rw [l1, l2]
      have z := run l (.bl (xor true (xs.length == ys.length))) (Step.refl l) ok rfl
      rw [Bool.true_xor] at z
      exact ⟨.bl (!(xs.length == ys.length)), l.H, I, rfl, z⟩
    · exact run.elim
  · rename_i a b
    have z := run l (.bl (xor true (a == b))) (Step.refl l) ok rfl
    cases (show x = .str a from rp)
    cases (show y = .str b from rq)
    refine op_ne pins s σ l.H _ _ v u Q I rx ry ⟨rfl, ?_⟩
    rw [dec_strV]
    rw [Bool.true_xor] at z
    exact z
  · exact run.elim
/-- == of data, or of a list and an empty list -/
@[simp] def gEq (neg : Bool) : PV → PV → S → R S PV := fun p q s => if okD 8 p = true ∧ okD 8 q = true then .ok (.bl (xor neg (eqP p q))) s else fEqE neg p q s
theorem gEq_str (neg : Bool) (a b : Str) (s : S) : gEq neg (.str a) (.str b) s = .ok (.bl (xor neg (a == b))) s := by
  unfold gEq
  split
  · simp [eqP]
  · rfl
theorem gEq_ok (neg : Bool) (p q : PV) (s : S) : gEq neg p q s = .bad ∨ orB (gEqD neg p q s) (fEqE neg p q s) = gEq neg p q s := by
  refine .inr ?_
  simp only [gEq, gEqD]
  split <;> rfl
theorem o_eqA (hu : X.A.units + 64 < cLine) : OJ X g (compareOp .Eq) (gEq false) := ((o_eq hu).or (o_eqE hu)).below fun p q s => gEq_ok false p q s
theorem o_neA (hu : X.A.units + 64 < cLine) : OJ X g (compareOp .NotEq) (gEq true) := ((o_ne hu).or (o_neE hu)).below fun p q s => gEq_ok true p q s
end
end L3
namespace L3
open PySem PySem.Spec PyProof.Rows L2
theorem DefX.funD {K : PySem.W.Frag} {d : DefX} (hs : d.sup = false) (e : fnX K (d.ad K) = d.val) (c : d.ok K = true) : ∃ fd, FunD K d.name d.qual d.params d.body d.scope (d.dvs K) (d.kws K) (d.ad K) fd := by
  obtain ⟨kp, c2⟩ := He.ba c
  unfold fnX at e
  revert c2 e
  cases q : K.lookup (d.ad K) with
  | none => exact fun e c2 => nomatch c2
  | some o =>
    obtain ⟨oc, od, dt, osl⟩ := o
    cases dt with
    | func fd =>
      intro e c2
      obtain ⟨n1, n2, n3, n4, n5, n6, n7, n8, n9, n10, n11, n12, n13, n14, n15⟩ := fd
      have e2 : (some (n1, n2, n3, n4, n5, n6, n7.map fun p => (p.1, 0), n15) : He.FnW) = some (d.name, d.qual, d.params, .stmts d.body, d.scope, mainGlobals, supCl d.sup, builtinsNs) := e
      rw [hs] at e2
      simp only [Option.some.injEq, Prod.mk.injEq] at e2
      obtain ⟨g1, g2, g3, g4, g5, g6, g7, g8⟩ := e2
      have g7 : n7 = [] := List.map_eq_nil_iff.mp g7
      subst g1 g2 g3 g4 g5 g6 g7 g8
      obtain ⟨k1, k2⟩ := He.ba (show (PySem.W.codeIn K n13 d.qual && (He.dflB K n8 (d.dvs K) && He.kwdB K n9 (d.kws K))) = true from c2)
      obtain ⟨k3, k4⟩ := He.ba k2
      exact ⟨_, ⟨oc, od, n8, n9, n10, n11, n12, n13, n14, osl, rfl, q, k1, He.dflB_ok k3, He.kwdB_ok k4⟩, kp⟩
    | _ => exact fun e c2 => nomatch c2
section
variable {fa : List He.Fa} {xs : List (PySem.W.Frag → Bool)} {fn : List DefX} {K : PySem.W.Frag}
theorem SaysX.fact (c : SaysX fa xs fn K) (i : Nat) {f : He.Fa} (h : fa[i]? = some f := by rfl) : f.ok K = true :=
  List.all_eq_true.mp (He.ba (show ((fa.all fun f => f.ok K) && ((xs.all fun x => x K) && fn.all fun d => d.ok K)) = true from congrArg (fun z : AlX => z.1) c)).1 f (List.mem_of_getElem? h)
theorem SaysX.chk (c : SaysX fa xs fn K) (i : Nat) {x : PySem.W.Frag → Bool} (h : xs[i]? = some x := by rfl) : x K = true :=
  List.all_eq_true.mp (He.ba (He.ba (show ((fa.all fun f => f.ok K) && ((xs.all fun x => x K) && fn.all fun d => d.ok K)) = true from congrArg (fun z : AlX => z.1) c)).2).1 x (List.mem_of_getElem? h)
theorem SaysX.at_ (c : SaysX fa xs fn K) (i : Nat) {d : DefX} (h : fn[i]? = some d) : fnX K (d.ad K) = d.val ∧ d.ok K = true := by
  have c2 := (He.ba (He.ba (show ((fa.all fun f => f.ok K) && ((xs.all fun x => x K) && fn.all fun d => d.ok K)) = true from congrArg (fun z : AlX => z.1) c)).2).2
  have e : fn.map (fun d => fnX K (d.ad K)) = fn.map DefX.val := congrArg (fun z : AlX => z.2) c
  have e2 : (fn.map fun d => fnX K (d.ad K))[i]? = (fn.map DefX.val)[i]? := by rw [e]
  rw [List.getElem?_map, List.getElem?_map, h] at e2
  exact ⟨Option.some.inj e2, List.all_eq_true.mp c2 d (List.mem_of_getElem? h)⟩
theorem SaysX.def_ (c : SaysX fa xs fn K) (i : Nat) {d : DefX} (h : fn[i]? = some d := by rfl) (hs : d.sup = false := by rfl) : ∃ fd, FunD K d.name d.qual d.params d.body d.scope (d.dvs K) (d.kws K) (d.ad K) fd :=
  DefX.funD hs (c.at_ i h).1 (c.at_ i h).2
end
theorem propB_ok {m : Str} {K : PySem.W.Frag} (h : propB m K = true) : PropOf K (He.ga K "Ratio") m (He.ma K (He.ga K "Ratio") m) (getAd m K) := by
  obtain ⟨h1, h⟩ := He.ba h
  obtain ⟨h2, h⟩ := He.ba h
  obtain ⟨h3, h4⟩ := He.ba h
  refine ⟨He.eqO_ok h1, He.eqO_ok h2, of_decide_eq_true h3, ?_⟩
  unfold getAd
  split at h4
  · rename_i f r e
    exact ⟨r, by rw [e]⟩
  · cases h4
end L3
namespace L3
open PySem PySem.Spec PyProof.Rows L2
/-- what the law's promise asks, from the plain law -/
theorem law_sp {K : PySem.W.Frag} {CR : Addr} {F : DF} {n : Nat} (h : ∀ ns : List Int, ns.length ≤ n → ∃ mu', F [.frz (ns.map .int)] [] = .ok (.bl true) mu') (H : Hp) (a : Addr) (ns : List Int) (hl : ns.length ≤ n) (hT : ∀ x ∈ TK K, H (tA K x) = some (.tbl #[])) (hS : SqL K H a (ns.map V.int)) :
    spJ K CR 1 F [.ref a] H (fun v _ => v = .bl true) fun _ _ _ => False := by
  obtain ⟨mu', e⟩ := h ns hl
  have rl : ∀ (ns : List Int), RepGL K ⟨CR, fun _ => False, W0⟩ ⟨[], fun a => IsT K a, H⟩ (ns.map PV.int) (ns.map V.int) := fun ns => by
    induction ns with
    | nil => rfl
    | cons i r ih => exact ⟨.int i, _, rfl, rfl, ih⟩
  have nT : ∀ o, Rd H a (.lst o) → ¬ IsT K a := fun o e ⟨x, hx, z⟩ => by
    rw [z] at e
    rcases e with e | ⟨u, e⟩
    · rw [hT x hx] at e; cases e
    · rw [hT x hx] at e; cases e
  refine ⟨fun _ => False, ⟨[], fun a => IsT K a, H⟩, [.frz (ns.map .int)], [], rfl, ⟨fun a => by simp, ⟨rfl, fun i v e => by simp at e, fun i v e => by simp at e, fun i j xs ys a _ e => by simp at e, rfl, fun n a m h1 _ => by simp at h1, List.nodup_nil, fun a h => by simp at h, fun a h => ?_, fun a _ h => h.elim, fun x hx => ⟨⟨x, hx, rfl⟩, by simp, #[], hT x hx, trivial, fun pos cv z => ?_⟩⟩⟩, ?_, rfl, ?_⟩
  · obtain ⟨x, hx, z⟩ : IsT K a := h.elim id False.elim
    rw [z]
    show H _ ≠ none
    rw [hT x hx]; simp
  · have z : codeAmong pos [] = some cv := z
    simp [codeAmong] at z
  · refine ⟨.ref a, [], rfl, ⟨a, ns.map V.int, rfl, ?_, rl ns⟩, rfl⟩
    rcases hS with hS | hS
    · exact .inl ⟨fun z => by rcases z with z | z; exact nT _ hS z; exact z, hS⟩
    · exact .inr hS
  · rw [e]
    intro l' u _ _ r
    exact r
end L3
namespace L3
open PySem PySem.Spec PyProof.Rows L2
end L3
namespace L3
open PySem PySem.Spec PyProof.Rows L2
/-- a promise that lets nothing out, whatever is wished of exceptions -/
theorem calm_of {P : Program} {w : World} {K : PySem.W.Frag} {mg : Str → Option Value} {base : Heap} {CX : CXT} {k : Nat} {f : Addr} {fd : FuncData} {ps : List Str} {sp : Sp} (F : FnG P w K mg base (L2.CX P w) k f fd ps sp) : FnG P w K mg base CX k f fd ps (fun vs H Q _ => sp vs H Q fun _ _ _ => False) where
  len := fun vs H Q E h => F.len vs H Q _ h
  run := fun A outer s H args us vs Q E hr e0 hb r h => codeAny_mono (F.run A outer s H args us vs Q _ hr e0 hb r h) fun r s' hq => by
    cases r with
    | error e =>
      obtain ⟨_, _, _, _, _, _, _, _, _, _, _, _, z⟩ := (show L2.CX P w outer H s (fun _ _ _ => False) e s' from hq)
      exact z.elim
    | ok fl => cases fl <;> exact hq
end L3
namespace L3
open PySem PySem.W PyProof.Rows
end L3
namespace L3
open PySem PySem.Spec PyProof.Rows L2
def HasBn (P : Program) (w : World) (K : PySem.W.Frag) (mg : Str → Option Value) (base : Heap) (CR : Addr) (nm : String) (k : Nat) (F : DF) : Prop := ∃ f, BinF K CR f nm ∧ At P w K mg base CR f k ["self", "other"] F
def HasUn (P : Program) (w : World) (K : PySem.W.Frag) (mg : Str → Option Value) (base : Heap) (CR : Addr) (nm : Str) (k : Nat) (F : DF) : Prop := ∃ f, UnF K CR f nm ∧ At P w K mg base CR f k ["self"] F
def HasCm (P : Program) (w : World) (K : PySem.W.Frag) (mg : Str → Option Value) (base : Heap) (CR : Addr) (k : Nat) (F : DF) : Prop :=
  (PySem.W.findIn K (.ref CR) "__ne__" = some (some (.builtin "object.__ne__")) ∧ PySem.W.mroIn K CR (.type "object") = some true) ∧ ∃ f, CmpF K CR f "__eq__" ∧ At P w K mg base CR f k ["self", "other"] F
theorem rfO_ok {o : Option (Option Value)} (h : rfO o = true) : o = some none ∨ ∃ g : Addr, o = some (some (.ref g)) := by
  unfold rfO at h
  split at h
  · exact .inl rfl
  · exact .inr ⟨_, rfl⟩
  · cases h
theorem binB_ok {nm : String} {K : PySem.W.Frag} (h : binB nm K = true) : BinF K (He.ga K "Ratio") (He.ma K (He.ga K "Ratio") (PySem.dunder nm)) nm := by
  obtain ⟨h1, h⟩ := He.ba h
  obtain ⟨h2, h⟩ := He.ba h
  obtain ⟨h3, h⟩ := He.ba h
  obtain ⟨h4, h⟩ := He.ba h
  obtain ⟨h5, h⟩ := He.ba h
  obtain ⟨h6, h7⟩ := He.ba h
  exact ⟨h1, He.eqO_ok h2, h3, rfO_ok h4, Option.isSome_iff_exists.mp h5, Option.isSome_iff_exists.mp h6, of_decide_eq_true h7⟩
theorem unB_ok {nm : Str} {K : PySem.W.Frag} (h : unB nm K = true) : UnF K (He.ga K "Ratio") (He.ma K (He.ga K "Ratio") nm) nm := by
  obtain ⟨h1, h2⟩ := He.ba h
  exact ⟨He.eqO_ok h1, h2⟩
theorem cmpB_ok {K : PySem.W.Frag} (h : cmpB K = true) : (PySem.W.findIn K (.ref (He.ga K "Ratio")) "__ne__" = some (some (.builtin "object.__ne__")) ∧ PySem.W.mroIn K (He.ga K "Ratio") (.type "object") = some true) ∧ CmpF K (He.ga K "Ratio") (He.ma K (He.ga K "Ratio") "__eq__") "__eq__" := by
  obtain ⟨h0, h⟩ := He.ba h
  obtain ⟨h1, h2⟩ := He.ba h0
  obtain ⟨h3, h⟩ := He.ba h
  obtain ⟨h4, h5⟩ := He.ba h
  have u := unB_ok h3
  refine ⟨⟨He.eqO_ok h1, of_decide_eq_true h2⟩, u.at_, u.fn, h4, fun t ht => List.all_eq_true.mp h5 t ?_⟩
  rcases ht with rfl | rfl | rfl | rfl <;> simp
/-- a binary operator: a ratio on the left, or what h says -/
def gRL (F : DF) (h : PV → PV → S → R S PV) : PV → PV → S → R S PV := fun p q s => match p, q with
  | .rat a, .rat b => fMt 2 F [.rat a, .rat b] s
  | .rat a, .int b => fMt 2 F [.rat a, .int b] s
  | p, q => h p q s
/-- .. or on either side -/
def gRR (F FR : DF) (h : PV → PV → S → R S PV) : PV → PV → S → R S PV := fun p q s => match p, q with
  | .rat a, .rat b => fMt 2 F [.rat a, .rat b] s
  | .rat a, .int b => fMt 2 F [.rat a, .int b] s
  | .int a, .rat b => fMt 2 FR [.rat b, .int a] s
  | p, q => h p q s
def gR1 (F : DF) (h : PV → S → R S PV) : PV → S → R S PV := fun p s => match p with
  | .rat a => fMt 1 F [.rat a] s
  | p => h p s
def gEqR (F : DF) (h : PV → PV → S → R S PV) : PV → PV → S → R S PV := fun p q s => match p, q with
  | .rat a, .rat b => fMt 2 F [.rat a, .rat b] s
  | .rat a, .int b => fMt 2 F [.rat a, .int b] s
  | .rat a, .bl b => fMt 2 F [.rat a, .bl b] s
  | .rat a, .str b => fMt 2 F [.rat a, .str b] s
  | .rat a, .non => fMt 2 F [.rat a, .non] s
  | p, q => h p q s
@[simp] def notK : PV → S → R S PV := fun v s => match v with
  | .bl b => .ok (.bl (!b)) s
  | _ => .bad
def gNeR (F : DF) (h : PV → PV → S → R S PV) : PV → PV → S → R S PV := fun p q s => match p, q with
  | .rat a, .rat b => (fMt 2 F [.rat a, .rat b] s).bind notK
  | .rat a, .int b => (fMt 2 F [.rat a, .int b] s).bind notK
  | .rat a, .bl b => (fMt 2 F [.rat a, .bl b] s).bind notK
  | .rat a, .str b => (fMt 2 F [.rat a, .str b] s).bind notK
  | .rat a, .non => (fMt 2 F [.rat a, .non] s).bind notK
  | p, q => h p q s
section
variable {X : Cx} {g : Gx} {f : Addr} {fn : List PV → S → R S PV} {op : Operator} {F FR : DF} {k k' : Nat} {h : PV → PV → S → R S PV}
theorem OJ.rl (hB : HasBn X.prog X.w X.K X.mg X.base g.CR op.info.2 k F) (hr : Room k X.A) (tk : Takes X g.W) (ho : OJ X g (binaryOp op) h) : OJ X g (binaryOp op) (gRL F h) := by
  obtain ⟨f, B, hA⟩ := hB
  have hl := o_ratL B (hA.jr hr tk 2)
  intro pins s σ x y v u Q l st p q I rx ry ok rp rq run
  cases p <;> first
    | exact ho pins s σ x y v u Q l st _ q I rx ry ok rp rq run
    | (cases q <;> first
      | exact hl pins s σ x y v u Q l st _ _ I rx ry ok rp rq run
      | exact ho pins s σ x y v u Q l st _ _ I rx ry ok rp rq run)
theorem UJ.neg (hB : HasUn X.prog X.w X.K X.mg X.base g.CR "__neg__" k F) (hr : Room k X.A) (tk : Takes X g.W) : UJ X g (unaryOp .USub) (gR1 F fNegI) := by
  obtain ⟨f, B, hA⟩ := hB
  have hl := u_negR B (hA.jr hr tk 1)
  intro pins s σ x v Q l st p I rx ok rp run
  cases p <;> first
    | exact u_negI pins s σ x v Q l st _ I rx ok rp run
    | exact hl pins s σ x v Q l st _ I rx ok rp run
end
end L3
namespace L3
open PySem PySem.Spec PyProof.Rows L2
@[simp] def dFnD (F : DF) (n : Nat) (dps : List PV) (da : DA) : DE := fun s => (da s).bind fun ps s1 => if ps.length = n then fnS F (ps ++ dps) s1 else .bad
@[simp] def dFnK (F : DF) (n m : Nat) (gP : List PV → List PV → List PV) (da dk : DA) : DE := fun s => (da s).bind fun ps s1 => (dk s1).bind fun zs s2 => if ps.length = n ∧ zs.length = m then fnS F (gP ps zs) s2 else .bad
section
variable {X : Cx} {g : Gx} {a b c e : Expr} {es : List Expr} {da db dc de : DE} {dr dk : DA} {pos p : Pos} {x : Str} {f : Addr} {k n : Nat} {ps : List Str} {F : DF} {dps : List PV}
/-- keywords' values -/
abbrev JK (X : Cx) (g : Gx) (kws : List Keyword) (d : DA) : Prop := PK X kws (LA X.K g d)
theorem PK.cq {kws : List Keyword} {t t' : TA} (h : PK X kws t) (i : ∀ σ H Q, t' σ H Q → t σ H Q) : PK X kws t' := ⟨fun pos pins s σ H Q I q => h.run pos pins s σ H Q I (i σ H Q q)⟩
theorem jk_nil : JK X g [] dNil := PK.cq pk_nil fun σ H Q q => by
  obtain ⟨l, s, rfl, ok, q⟩ := q
  exact q l [] (Step.refl l) ok rfl
theorem jk_cons {kws : List Keyword} {nm : Option Str} {kpos : Pos} (ha : JE X g e de) (hr : JK X g kws dk) : JK X g (⟨nm, e, kpos⟩ :: kws) (dCons de dk) := PK.cq (pk_cons ha hr) fun σ H Q q => by
  obtain ⟨l, s, rfl, ok, q⟩ := q
  refine ⟨l, s, rfl, ok, Run.mono (Run.bindA q) fun u H1 ⟨l1, s1, v, e1, ok1, r1, st1, h1⟩ => ?_⟩
  refine ⟨l1, s1, e1, ok1, RunA.mono (RunA.bindA h1) fun us H2 ⟨l2, s2, vs, e2, ok2, r2, st2, h2⟩ => ?_⟩
  subst e2
  exact h2 l2 (u :: us) (Step.refl _) ok2 ⟨u, us, rfl, st2.rep r1, r2⟩
end
end L3
namespace L3
open PySem PySem.Spec PyProof.Rows L2
section
variable {α : Type} (le : α → α → Bool)
def insB (x : α) : List α → List α
  | [] => [x]
  | y :: r => if le x y = true then x :: y :: r else y :: insB x r
def srt : List α → List α
  | [] => []
  | x :: r => insB le x (srt r)
variable {le} (tot : ∀ a b, le a b = true ∨ le b a = true) (tr : ∀ a b c, le a b = true → le b c = true → le a c = true) (as : ∀ a b, le a b = true → le b a = true → a = b)
end
def leI (a b : Int) : Bool := decide (a ≤ b)
abbrev isort (l : List Int) : List Int := srt leI l
@[simp] def fSortI : List PV → S → R S PV := fun ps s => match ps with
  | [.lst xs] => (match intsP xs with
    | some is => .ok (.lst ((isort is).map .int)) s
    | none => .bad)
  | _ => .bad
@[simp] def boolsP : List PV → Option (List Bool)
  | [] => some []
  | .bl b :: r => (match boolsP r with | some bs => some (b :: bs) | none => none)
  | _ => none
@[simp] def fAll : List PV → S → R S PV := fun ps s => match ps with
  | [.lst xs] => (match boolsP xs with
    | some bs => .ok (.bl (bs.all id)) s
    | none => .bad)
  | _ => .bad
/-- x in a list, x and its items data -/
@[simp] def gIn (neg : Bool) : PV → PV → S → R S PV := fun p q s => match q with
  | .lst xs => if okD 8 p = true ∧ okD 8 (.lst xs) = true then .ok (.bl (xor neg (xs.any fun z => eqP z p))) s else .bad
  | .tup xs => if okD 8 p = true ∧ okD 8 (.tup xs) = true then .ok (.bl (xor neg (xs.any fun z => eqP z p))) s else .bad
  | .str y => (match p with
    | .str x => .ok (.bl (xor neg (!(Builtin.Str.occurrences y x 0 y.length 1).isEmpty))) s
    | _ => .bad)
  | _ => .bad
end L3
namespace L3
open PySem PySem.Spec PyProof.Rows L2 PySem.Calls
end L3
namespace L3
open PySem PySem.Spec PyProof.Rows L2 PySem.Calls
section
variable {X : Cx} {g : Gx} {pins : List (Addr × Obj)} {s : Shared} {σ : St} {l : Lc} {st : S} {Q : VK} {k k' : Nat} {fn : List PV → S → R S PV} {A : Around} {f a1 b1 : Addr} {a b : Rat}
theorem repL_len {xs : List PV} : ∀ {vs : List V}, RepGL X.K g l xs vs → vs.length = xs.length := by
  induction xs with
  | nil => intro vs h; cases (show vs = [] from h); rfl
  | cons x xs ih => intro vs h; obtain ⟨v, r, rfl, _, h2⟩ := h; simp [ih h2]
theorem repL_at {xs : List PV} : ∀ {vs : List V} {i : Nat} {p : PV}, RepGL X.K g l xs vs → xs[i]? = some p → ∃ v, vs[i]? = some v ∧ RepG X.K g l p v := by
  induction xs with
  | nil => intro vs i p h e; simp at e
  | cons x xs ih =>
    intro vs i p h e
    obtain ⟨v, r, rfl, h1, h2⟩ := h
    cases i with
    | zero => cases e; exact ⟨v, rfl, h1⟩
    | succ i => obtain ⟨v', e', h'⟩ := ih h2 (i := i) (p := p) (by simpa using e); exact ⟨v', by simpa using e', h'⟩
end
end L3
namespace L3
open PySem PySem.Spec PyProof.Rows L2 PySem.Calls
def ratsP : List PV → Option (List Rat)
  | [] => some []
  | .rat q :: xs => (ratsP xs).map (q :: ·)
  | _ :: _ => none
section
variable {X : Cx} {g : Gx} {pins : List (Addr × Obj)} {s : Shared} {σ : St} {l : Lc} {st : S} {Q : VK} {k : Nat} {fn : List PV → S → R S PV} {A : Around} {f a1 b1 : Addr} {a b : Rat}
theorem eq_at (hs : Sub X k A) (hu : A.units < cLine) (B : CmpF X.K g.CR f "__eq__") (hc : KA X g k f fn) (I : Inv X pins σ l.H s) (ok : Sok X.K g l st σ) (rp : RepG X.K g l (.rat a) (.ref a1)) (rq : RepG X.K g l (.rat b) (.ref b1))
    (run : Run X.K g (fn [.rat a, .rat b] st) l σ Q) : wpAny (model X.prog X.w) A (richCompare .Eq (.ref a1) (.ref b1)) (EP X pins σ Q) X.xe s := by
  obtain ⟨_, dx, e, n, hH⟩ := id rp
  cases e
  obtain ⟨_, dy, e, n2, hH2⟩ := id rq
  cases e
  obtain ⟨mA, O, _⟩ := ins_get I.hok hH
  obtain ⟨od, J, _⟩ := O.look
  obtain ⟨mB, O2, _⟩ := ins_get I.hok hH2
  obtain ⟨od2, J2, _⟩ := O2.look
  obtain ⟨m, hF⟩ := I.fr
  exact PySem.W.cmp_K (op := .Eq) hu hF I.ok.mod.kin J J2.type B.n0 B.at_ B.fn (wpAny_mono (wpAny_call (hc A hs pins s σ [.ref a1, .ref b1] [.ref a1, .ref b1] Q l st [.rat a, .rat b] I (.cons rfl (.cons rfl .nil)) ok ⟨_, _, rfl, rp, _, _, rfl, rq, rfl⟩ run)) (fun _ _ z => back_of z) fun _ _ z => z)
theorem rat_same (rp : RepG X.K g l (.rat a) (.ref a1)) (rq : RepG X.K g l (.rat b) (.ref a1)) : a = b := by
  obtain ⟨_, dx, e, n, hH⟩ := rp
  cases e
  obtain ⟨_, dy, e, n2, hH2⟩ := rq
  cases e
  rw [hH] at hH2
  have z := Option.some.inj hH2
  injection z with z1 z2 z3
  simp only [List.cons.injEq, Prod.mk.injEq, V.int.injEq, true_and, and_true] at z3
  exact Rat.ext z3.1 (by omega)
theorem same_bool {M : Model} {E : Value → Shared → Prop} {P : Bool → Shared → Prop} (h : P true s) : wpAny M A (eqBool (.ref a1) (.ref a1)) P E s := by
  unfold eqBool
  refine wpAny_holding ?_
  refine wpAny_ite_split (fun _ => wpAny_bind (wpAny_rule (wpAny_pure h))) (fun hab => absurd (by simp) hab)
theorem ratsP_at {xs : List PV} : ∀ {qs : List Rat}, ratsP xs = some qs → xs = qs.map .rat := by
  induction xs with
  | nil => intro qs h; cases h; rfl
  | cons x xs ih =>
    intro qs h
    cases x with
    | rat q =>
      have h : (ratsP xs).map (q :: ·) = some qs := h
      obtain ⟨r, hr, e⟩ := Option.map_eq_some_iff.mp h
      rw [← e, ih hr]; rfl
    | _ => cases h
end
end L3
namespace L3
open PySem PySem.Spec PyProof.Rows L2 PySem.Calls
section
variable {X : Cx} {g : Gx} {o e : Expr} {es : List Expr} {da : DE} {dr : DA}
@[simp] def fCount : PV → List PV → S → R S PV := fun p ps s => match p, ps with
  | .lst xs, [x] => if okD 8 x = true ∧ okD 8 (.lst xs) = true then .ok (.int (xs.countP fun z => eqP z x : Nat)) s else .bad
  | _, _ => .bad
@[simp] def fMaxL : List PV → S → R S PV := fun ps s => match ps with
  | [.lst xs] => (match intsP xs with
    | some (i :: is) => .ok (.int (is.foldl max i)) s
    | _ => .bad)
  | _ => .bad
/-- xs.count(x) -/
@[simp] def dCount (da : DE) (dr : DA) : DE := fun s => (da s).bind fun p s1 => match p with
  | .lst xs => (dr s1).bind fun ps s2 => fCount (.lst xs) ps s2
  | _ => .bad
end
end L3
namespace L3
open PySem PySem.Spec PyProof.Rows L2
theorem room_top {k : Nat} (h : L2.Room k callerA) : Room k callerA := ⟨h, rfl⟩
end L3
namespace L3
open PySem PySem.Spec PyProof.Rows L2
mutual
/-- what can be shown: ints below 2 ^ 1920 -/
def okS : PV → Bool
  | .non => true
  | .bl _ => true
  | .int i => decide (i.natAbs.log2 < 1920)
  | .str _ => true
  | .tup xs => okSL xs
  | .lst xs => okSL xs
  | .frz xs => okSL xs
  | _ => false
def okSL : List PV → Bool
  | [] => true
  | x :: xs => okS x && okSL xs
end
end L3
namespace L3
open PySem PySem.Spec PyProof.Rows L2
def keyP : PV → Option Key
  | .int i => some (.inl i)
  | .str x => some (.inr x)
  | _ => none
def lookK {κ : Type} [DecidableEq κ] (k : κ) : List κ → List PV → Option PV
  | j :: ks, x :: xs => if j = k then some x else lookK k ks xs
  | _, _ => none
@[simp] def fIxD : PV → PV → S → R S PV := fun p q s => match p with
  | .dk ks xs => (match keyP q with
    | some k => optR (lookK k ks xs) s
    | none => .bad)
  | _ => .bad
@[simp] def fGetD : PV → PV → PV → S → R S PV := fun p q z s => match p with
  | .dk ks xs => (match keyP q with
    | some k => .ok ((lookK k ks xs).getD z) s
    | none => .bad)
  | _ => .bad
@[simp] def dIxD (da db : DE) : DE := fun s => (da s).bind fun p s1 => (db s1).bind fun q s2 => fIxD p q s2
@[simp] def dGetD (da db dc : DE) : DE := fun s => (da s).bind fun p s1 => match p with
  | .dk ks xs => (db s1).bind fun q s2 => (dc s2).bind fun z s3 => fGetD (.dk ks xs) q z s3
  | _ => .bad
@[simp] def dDk0 : DE := fun s => .ok (.dk [] []) s
@[simp] def dDisp (ks : List Key) (d : DA) : DE := fun s => (d s).bind fun xs s1 => if ks.length = xs.length then .ok (.dk ks xs) s1 else .bad
section
variable {X : Cx} {g : Gx} {a b c e o : Expr} {es : List Expr} {da db dc de : DE} {dr : DA} {pos : Pos}
theorem Run.dk {K : PySem.W.Frag} {l : Lc} {s : S} {σ : St} {Q : VK} {ks : List Key} {xs : List PV} {vs : List V} (run : Run K g (.ok (.dk ks xs) s) l σ Q) (ok : Sok K g l s σ) (r : RepGL K g l xs vs) (hl : ks.length = vs.length) (p : Addr) (hp : l.H p = none) : Q (.ref p) (upd l.H p (.dK (ks.zip vs))) :=
  run ⟨l.al, l.M, upd l.H p (.dK (ks.zip vs))⟩ _ (Step.alloc hp) (ok.alloc hp) ⟨p, vs, rfl, ok.fresh hp, .inl upd_same, hl, (Step.alloc hp).reps r⟩
end
end L3
namespace L3
open PySem PySem.Spec PyProof.Rows L2
@[simp] def dMatch (d : DE) (m : Str → DS) : DS := fun s => (d s).bind fun v s1 => match v with
  | .str x => m x s1
  | _ => .bad
end L3
namespace L3
open PySem PySem.Spec PyProof.Rows L2
/-- where a parameter's value comes from: (0, i) the i-th by position, (1, i) the i-th default, (2, i) the i-th keyword -/
def src {α : Type} (us ds zs : List α) : Nat × Nat → Option α
  | (0, i) => us[i]?
  | (1, i) => ds[i]?
  | (_, i) => zs[i]?
def pick3 {α : Type} (is : List (Nat × Nat)) (us ds zs : List α) : List α := is.filterMap (src us ds zs)
theorem vals_get {vs : List V} {us : List Value} (h : Vals vs us) : ∀ i : Nat, (∃ v u, vs[i]? = some v ∧ us[i]? = some u ∧ RelV v u) ∨ (vs[i]? = none ∧ us[i]? = none) := fun i => by
  cases e : vs[i]? with
  | some v =>
    obtain ⟨u, h1, h2⟩ := h.get e
    exact .inl ⟨v, u, rfl, h1, h2⟩
  | none => exact .inr ⟨rfl, by rw [List.getElem?_eq_none_iff] at e ⊢; rw [← h.length]; exact e⟩
theorem pick3_vals {is : List (Nat × Nat)} {vs ds zs : List V} {us ts ws : List Value} (h1 : Vals vs us) (h2 : Vals ds ts) (h3 : Vals zs ws) : Vals (pick3 is vs ds zs) (pick3 is us ts ws) := by
  induction is with
  | nil => exact .nil
  | cons p is ih =>
    have one : (∃ v u, src vs ds zs p = some v ∧ src us ts ws p = some u ∧ RelV v u) ∨ (src vs ds zs p = none ∧ src us ts ws p = none) := by
      obtain ⟨k, i⟩ := p
      match k with
      | 0 => exact vals_get h1 i
      | 1 => exact vals_get h2 i
      | k + 2 => exact vals_get h3 i
    unfold pick3 at ih ⊢
    rcases one with ⟨v, u, e1, e2, r⟩ | ⟨e1, e2⟩
    · rw [List.filterMap_cons_some e1, List.filterMap_cons_some e2]
      exact .cons r ih
    · rw [List.filterMap_cons_none e1, List.filterMap_cons_none e2]
      exact ih
theorem pick3_rep {K : PySem.W.Frag} {CR : Addr} {al : List Addr} {L : Addr → Prop} {H : Hp} {is : List (Nat × Nat)} {us ds zs : List PV} {vs ts ws : List V} (h1 : RepL K CR al L H us vs) (h2 : RepL K CR al L H ds ts) (h3 : RepL K CR al L H zs ws) :
    RepL K CR al L H (pick3 is us ds zs) (pick3 is vs ts ws) := by
  have at_ : ∀ {xs : List PV} {ys : List V}, RepL K CR al L H xs ys → ∀ i : Nat, (∃ x y, xs[i]? = some x ∧ ys[i]? = some y ∧ Rep K CR al L H x y) ∨ (xs[i]? = none ∧ ys[i]? = none) := fun {xs ys} h i => by
    cases e : xs[i]? with
    | some v =>
      obtain ⟨u, h1, h2⟩ := h.get e
      exact .inl ⟨v, u, rfl, h1, h2⟩
    | none => exact .inr ⟨rfl, by rw [List.getElem?_eq_none_iff] at e ⊢; rw [← h.length]; exact e⟩
  induction is with
  | nil => rfl
  | cons p is ih =>
    have one : (∃ v u, src us ds zs p = some v ∧ src vs ts ws p = some u ∧ Rep K CR al L H v u) ∨ (src us ds zs p = none ∧ src vs ts ws p = none) := by
      obtain ⟨k, i⟩ := p
      match k with
      | 0 => exact at_ h1 i
      | 1 => exact at_ h2 i
      | k + 2 => exact at_ h3 i
    unfold pick3 at ih ⊢
    rcases one with ⟨v, u, e1, e2, r⟩ | ⟨e1, e2⟩
    · rw [List.filterMap_cons_some e1, List.filterMap_cons_some e2]
      exact ⟨u, _, rfl, r, ih⟩
    · rw [List.filterMap_cons_none e1, List.filterMap_cons_none e2]
      exact ih
end L3
namespace L3
open PySem PySem.Spec PyProof.Rows L2
end L3
namespace L3
open PySem PySem.Spec PyProof.Rows L2
theorem EB.facts : ∀ b : EB, ExcBaseFacts b.B b.nw b.it b.bm
  | .ve => PySem.F.excBase_ValueError
  | .le => PySem.F.excBase_LookupError
  | .ae => PySem.F.excBase_ArithmeticError
theorem EB.store : ∀ b : EB, StoreFacts b.B b.bm "object.__setattr__" "object"
  | .ve => PySem.F.store_ValueError
  | .le => PySem.F.store_LookupError
  | .ae => PySem.F.store_ArithmeticError
/-- what the text says of an own exception class at C -/
structure OxB (K : PySem.W.Frag) (b : EB) (C : Addr) : Prop where
  ini : PySem.W.excInitIn K C b.bm b.nw = true
  ovr : PySem.W.excOver K C b.bm = true
  hd : PySem.W.hasDictIn K C = true
  sa : PySem.W.findIn K (.ref C) "__setattr__" = some (some (.builtin "object.__setattr__"))
  exC : PySem.W.subIn K (.ref C) (.type "BaseException") = some true
  tyC : PySem.W.typeIn K (.ref C) = some (.type "type")
  kC : PySem.W.keepIn K (.ref C) = true
section
variable {prog : Program} {w : World} {A : Around} {R : Result → Shared → Prop} {hp : Heap} {g : Array GenState} {d : Drawn} {t : Nat} {os : OsState}
/-- the first field of an exception that is being made -/
theorem osaB {K : PySem.W.Frag} {b : EB} {name : Str} {tk : Tok} {v : Value} {x C : Addr} {fv : Array Value} (T : OxB K b C) (X : K.In hp) (hx : hp.get? x = some { cls := .ref C, data := .fields fv }) (ha : PySem.W.takerIn K C name = some none)
    (hq : ∀ h' tk' dx, (∀ b o, b ≠ x → hp.get? b = some o → h'.get? b = some o) → hp.objs.size ≤ dx → dx ≠ x → h'.get? x = some { cls := .ref C, dict := some dx, data := .fields fv } →
      h'.Ns1 dx (fun y => if y = name then some v else none) → R (.ok (.ret .none)) ⟨h', g, d, tk', os⟩) :
    codeAny (model prog w) A (.call (.builtin "object.__setattr__") ⟨[.ref x, .str name tk, v], []⟩) R ⟨hp, g, d, t, os⟩ := by
  have I : PySem.W.InstAt hp x { cls := .ref C, data := .fields fv } C none := ⟨hx, rfl, rfl, trivial⟩
  refine PySem.W.osa_openX (s := ⟨hp, g, d, t, os⟩) b.store X I T.ovr ha fun bb => ?_
  dsimp only
  obtain ⟨cd, hcd, hdict⟩ := PySem.W.any_some T.hd
  have hcls : PySem.W.Looks (model prog w) hp (classData C) cd := PySem.W.looks_clsIn X hcd
  have hxs : x ≠ hp.objs.size := Nat.ne_of_lt (Heap.lt_size hx)
  obtain ⟨nm, bs, mro, ns, qn, hd, sn, sb, ab, col, del⟩ := cd
  have hh : hd = true := hdict
  subst hh
  unfold Builtin.ObjectAttr.storeInOwnDict Builtin.ObjectAttr.ownDictForStores
  repeat (first | with_reducible refine PySem.HandSPX.store_in_new ?_ ?_ | with_reducible refine wpAny_loadPart_at hx ?_ | with_reducible refine hcls.at ?_ | wp_step)
  · exact ⟨_, #[], _, (Heap.get?_update_ne _ _ _ _ hxs.symm).trans (Heap.get?_push_at rfl rfl), rfl, fun e he => absurd he (by simp), fun _ => rfl⟩
  · intro h' tk' hn' hs
    have old : ∀ {b : Addr} {o : Obj}, b ≠ x → hp.get? b = some o → h'.get? b = some o := fun {b o} hb ho =>
      (hs.2 b (Nat.ne_of_lt (Heap.lt_size ho))).trans ((Heap.get?_update_ne _ _ _ _ hb).trans (Heap.get?_push_of_some _ ho))
    refine hq h' tk' hp.objs.size (fun _ _ => old) (Nat.le_refl _) hxs.symm ?_ hn'
    have e : (hp.push { cls := .type "dict", data := .dict #[] }).get? x = some { cls := .ref C, data := .fields fv } := Heap.get?_push_of_some _ hx
    exact (hs.2 x hxs).trans (Heap.get?_update_self _ e rfl)
end
section
variable {X : Cx} {pins : List (Addr × Obj)} {σ : St} {H : Hp} {s : Shared} {a C : Addr} {f : Str} {y : V} {u : Value} {b : EB}
theorem ostB {Q : Unit → Shared → Prop} {E : Value → Shared → Prop} (T : OxB X.K b C) (I : Inv X pins σ H s) (e : H a = some (exo a C none)) (hno : PySem.W.takerIn X.K C f = some none) (ry : RelV y u)
    (h : ∀ dx s', H dx = none → dx ≠ a → Inv X pins σ (upd (upd H dx (exd dx [(f, y)])) a (exo a C (some dx))) s' → Q () s') : wpAny (model X.prog X.w) X.A (setAttr (.ref a) f u) Q E s := by
  obtain ⟨t1, ho⟩ := exo_at I.hok e
  obtain ⟨hp, g, d, t, os⟩ := s
  refine PySem.W.set_plain I.kIn (ox := { cls := .ref C, dict := none, data := .fields #[.ref t1, .none, .none, .none, .bool false, .none] }) (od := none) ⟨ho, rfl, rfl, trivial⟩ T.sa ?_
  refine osaB T I.kIn ho hno fun h' tk' dx k dn dne hx hn => ?_
  have hnd : H dx = none := I.hok.fresh dn
  have nd : ∀ {c : Addr} {o : Obj}, hp.get? c = some o → c ≠ dx := fun {c o} q => Nat.ne_of_lt (Nat.lt_of_lt_of_le (Heap.lt_size q) dn)
  have na : ∀ {c : Addr}, H c = none → c ≠ a := fun {c} n z => by rw [z, e] at n; cases n
  have both : ∀ {c : Addr} {o : HO}, H c = some o → exo a C none ≠ o → upd (upd H dx (exd dx [(f, y)])) a (exo a C (some dx)) c = H c := fun {c o} q n => by rw [upd_ne (at_ne e q n), upd_ne (ne_of_none q hnd)]
  refine h dx _ hnd dne (I.un (t' := tk') { keep := fun c o q n _ _ => k c o (na n) q, slot := fun c o q n _ _ => ⟨o.slots, k c o (na n) q⟩, free := fun c o q n _ => by rw [upd_ne (na n), upd_ne (nd q)]; exact n, there := fun c o q _ => ?_, tups := fun c xs q => by rw [both q exo_tup]; exact q, frzs := fun c o v q => by rw [both q exo_frz]; exact q, tbls := fun c ps q => ⟨#[], by rw [both q exo_tbl, q]; simp⟩ } fun c o q => ?_)
  · by_cases hc : c = a
    · rw [hc]; exact ⟨_, hx⟩
    · exact ⟨o, k c o hc q⟩
  · by_cases hc : c = a
    · subst hc
      rw [upd_same] at q
      cases q
      exact exo_ok hx
    · rw [upd_ne hc] at q
      by_cases hd : c = dx
      · subst hd
        rw [upd_same] at q
        cases q
        exact exd_ok hn (relO_put (fs := []) ry fun g => True.intro)
      · rw [upd_ne hd] at q
        refine (I.hok c o q).stay (fun c' v hc' z => k c' v ?_ z) (fun c' hc' => by rw [both hc' exo_own]; exact hc') fun c' xs hc' => by rw [both hc' exo_tup]; exact hc'
        rcases hc' with hc' | hc'
        · rw [hc']; exact hc
        · exact at_ne e hc' exo_own
/-- what such an __init__ keeps -/
def spI (C : Addr) (f : Str) : Sp := fun vs H Q _ => ∃ a v, vs = [.ref a, v] ∧ H a = some (exo a C none) ∧ ∀ dx, H dx = none → dx ≠ a → Q .non (upd (upd H dx (exd dx [(f, v)])) a (exo a C (some dx)))
def tOstB (C : Addr) (f : Str) (to te : TE) : TS := fun D σ H => te σ H fun y H1 => to σ H1 fun x H2 => ∃ a, x = .ref a ∧ H2 a = some (exo a C none) ∧ ∀ dx, H2 dx = none → dx ≠ a → D.nx σ (upd (upd H2 dx (exd dx [(f, y)])) a (exo a C (some dx)))
theorem ps_ostB {o e : Expr} {to te : TE} {p' pos : Pos} (T : OxB X.K b C) (hno : PySem.W.takerIn X.K C f = some none) (ho : PE X o to) (he : PE X e te) (hs : swapsWith e (some (.Attribute o f p')) pos.line X.env = pure false := by rfl) : PS X (.Assign [.Attribute o f p'] e pos) (tOstB C f to te) := by
  refine ⟨fun pins s σ H D I h => ?_⟩
  refine plainObj_wpAny_Assign_Attribute (thn (he.run pins s σ H _ I h) fun v s1 ⟨y, H1, I1, r1, q1⟩ => thn (ho.run pins s1 σ H1 _ I1 q1) fun u s2 ⟨x, H2, I2, r2, a, ex, ea, q⟩ => ?_) hs
  subst ex
  obtain rfl : u = Value.ref a := r2
  exact ostB T I2 ea hno r1 fun dx s' n ne J => ⟨σ, _, J, q dx n ne⟩
end
/-- the class's own __init__(self, f): self.f = f -/
theorem initB {P : Program} {w : World} {K : PySem.W.Frag} {mg : Str → Option Value} {base : Heap} {C fI : Addr} {b : EB} {x qual f : Str} {params : Arguments} {body : List Stmt} {scope : Scope} {dvs : List V} {kws : List (Str × V)} {fd : FuncData} {q1 q2 q3 q4 : Pos} (T : OxB K b C)
    (hno : PySem.W.takerIn K C f = some none) (F : FunD K x qual params body scope dvs kws fI fd) (S : FnScope ["self", f] ["self", f] scope) (hb : body = [.Assign [.Attribute (.Name "self" q1) f q2] (.Name f q3) q4]) (h1 : (f == ("__debug__" : Str)) = false) (h2 : (f == ("__classdict__" : Str)) = false) :
    FnG P w K mg base (L2.CX P w) 1 fI fd ["self", f] (spI C f) := by
  refine fnG_of F S (fun vs H Q E h => ?_) fun cdv A outer s H vs Q E hr h => ?_
  · obtain ⟨a, v, rfl, _⟩ := h
    rfl
  · obtain ⟨a, v, rfl, ea, q⟩ := h
    subst hb
    have vis : ∀ y : Str, y ∈ [("self" : Str), f] → Vis scope y := fun y hy => (S.par y hy).elim (fun z => .inl z) fun z => .inr (.inl z)
    refine ⟨_, pss_one (ps_ostB (X := cxOf (L2.CX P w) P w K mg base ["self", f] qual scope fI cdv A outer s H E) (C := C) (f := f) T hno (pe_var (i := 0) rfl (vis "self" (by simp))) (pe_var (i := 1) rfl (vis f (by simp)) h1 h2)), ?_⟩
    exact ⟨v, rfl, .ref a, rfl, a, rfl, ea, q⟩
/-- C(e), C with such an __init__ -/
theorem pmkB {X : Cx} {b : EB} {C fI : Addr} {k : Nat} {fd : FuncData} {f x : Str} {e : Expr} {ta : TA} {p pos : Pos} (T : OxB X.K b C) (iC : PySem.W.findIn X.K (.ref C) "__init__" = some (some (.ref fI))) (tI : PySem.W.isFn X.K (.ref fI) = true)
    (F1 : FnG X.prog X.w X.K X.mg X.base (L2.CX X.prog X.w) k fI fd ["self", f] (spI C f)) (hr : Room (k + 1) X.A) (hb : Binds X.K fd ["self", f] []) (hm : X.mg x = some (.ref C)) (ha : PA X [e] ta) (hg : Gl X x := by rfl)
    (hdb : (x == ("__debug__" : Str)) = false := by decide) (he : starEach [e] X.env = (false, eval e X.env) :: starEach [] X.env := by rfl) (hpl : (backTo pos (starEach [] X.env)).any (·.1) = false := by rfl) :
    PMk X (.Call (.Name x p) [e] [] pos) (fun σ H Q => ta σ H fun vs H1 => ∃ v, vs = [v] ∧ ∀ d, H1 d = none → Q (.ref C) (some d) (upd H1 d (.xd [(f, v)]))) := by
  intro pins s σ H Q I h
  refine wpAny_Call_Name_kw (ld_glob I hg hm ?_ hdb)
  refine PySem.W.callWith_K (h₀ := X.base) I.ok.mod.kin T.kC (thn (ha.run pos pins s σ H _ I h) fun us s1 ⟨vs, H1, I1, r1, v, ev, q1⟩ => ⟨I1.kIn, ?_⟩) he hpl
  subst ev
  obtain ⟨nm, N', qn, bs, bm, hdct, sn, sub, ab, col, dd, k0, k1, k2, k3, k5, hC, hT⟩ := PySem.W.excInit_of I1.kIn T.ini
  obtain ⟨oI, hoI, hcI⟩ : ∃ oI, s1.heap.get? fI = some oI ∧ oI.cls = .type "function" := by
    obtain ⟨o, ho, hc⟩ := Option.map_eq_some_iff.mp (show (X.K.lookup fI).map (·.cls) = some (.type "function") from beq_iff_eq.mp tI)
    exact ⟨o, I1.kIn _ _ ho, hc⟩
  show wpAny _ _ (call (.ref C) us) _ _ _
  obtain ⟨hp, g, dr, tk, os⟩ := s1
  let a := hp.objs.size + 1
  let h2 := (hp.push (PySem.W.kdv_tup us)).push (PySem.HandSPX.excO C hp.objs.size)
  have hsz : hp.objs.size ≤ a := Nat.le_succ _
  have kk : ∀ b o, hp.get? b = some o → h2.get? b = some o := fun b o e => Heap.get?_push_of_some _ (Heap.get?_push_of_some _ e)
  have hget : h2.get? a = some (PySem.HandSPX.excO C hp.objs.size) := by
    show ((hp.push (PySem.W.kdv_tup us)).push (PySem.HandSPX.excO C hp.objs.size)).get? (hp.objs.size + 1) = _
    heap_get
  have I2 : Inv X pins σ (upd H1 a (exo a C none)) ⟨h2, g, dr, tk, os⟩ := I1.laid (t' := tk) (a := a) (o := exo a C none) (h' := h2) kk hsz (exo_ok hget)
  have r2 : Vals (V.ref a :: [v]) (Value.ref a :: us) := .cons rfl r1
  have hl : (Value.ref a :: us ++ []).length = 2 := by
    rw [List.append_nil]
    exact r2.length.symm
  have hus : us.length ≤ sizeLine := by
    rw [← Paired.length r1, sizeLine_eq]
    exact (by decide : 1 ≤ 16777216)
  have hn : H1 a = none := I1.hok.fresh hsz
  have b2 := hb ⟨h2, g, dr, tk, os⟩ (Value.ref a :: us) I2.kIn hl
  rw [List.append_nil] at b2
  have asks : spI C f [.ref a, v] (upd H1 a (exo a C none)) (fun w H2 => w = .non ∧ ∃ d, H2 a = some (exo a C (some d)) ∧ H2 d = some (exd d [(f, v)]) ∧ H1 d = none ∧ Q (.ref C) (some d) (upd (del H2 a) d (.xd [(f, v)]))) (fun _ _ _ => False) := by
    refine ⟨a, v, rfl, upd_same, fun dx hdx ne => ⟨rfl, dx, upd_same, by rw [upd_ne ne, upd_same], ?_, ?_⟩⟩
    · rw [upd_ne ne] at hdx; exact hdx
    · have hd1 : H1 dx = none := by rw [upd_ne ne] at hdx; exact hdx
      have z := q1 dx hd1
      have e : upd (del (upd (upd (upd H1 a (exo a C none)) dx (exd dx [(f, v)])) a (exo a C (some dx))) a) dx (.xd [(f, v)]) = upd H1 dx (.xd [(f, v)]) := by
        funext c
        by_cases h1 : c = dx
        · rw [h1, upd_same, upd_same]
        · rw [upd_ne h1, upd_ne h1]
          by_cases h2 : c = a
          · rw [h2, del_same, hn]
          · rw [del_ne h2, upd_ne h2, upd_ne h1, upd_ne h2]
      rw [e]
      exact z
  refine wpAny_call (PySem.HandSPX.call_own b.facts hT hC (PySem.W.looks_findIn I1.kIn iC) (fun self => PySem.W.exc_bind hoI hcI self) hus
    (codeAny_mono (F1.run _ X.stack _ _ ⟨Value.ref a :: us, []⟩ (Value.ref a :: us) _ _ (fun _ _ _ => False) (hr.make C us []) (I2.env0.make C us []) b2 r2 asks) fun r s' z => ?_))
  match r, z with
  | .error er, ⟨_, _, _, _, _, _, _, _, _, _, _, _, z⟩ => exact z.elim
  | .ok .next, z => exact False.elim z
  | .ok .brk, z => exact False.elim z
  | .ok .cont, z => exact False.elim z
  | .ok (.ret u), ⟨w', H2, os2, bare2, un2, hok2, rv, ev, d, ea, ed, hd1, q2⟩ =>
    subst ev
    obtain ⟨h3, g2, d2, t2, os'⟩ := s'
    exact ⟨rv, mk_end (raises_own T.exC T.tyC) I1 hsz kk un2 hok2 os2 bare2 ea ed hd1 q2⟩
/-- raise c(e) -/
@[simp] def dRaise (c f : Str) (d : DE) : DS := fun s => (d s).bind fun v s1 => .exn (.exc c [f] [v]) s1
/-- raise c('..') -/
@[simp] def dRaise0 (c : Str) : DS := fun s => .exn (.exc c [] []) s
/-- an own exception class with an __init__ of one field -/
def HasE (P : Program) (w : World) (K : PySem.W.Frag) (mg : Str → Option Value) (base : Heap) (c f : Str) (b : EB) : Prop :=
  mg c = some (.ref (He.ga K c)) ∧ OxB K b (He.ga K c) ∧ ∃ fI fd, PySem.W.findIn K (.ref (He.ga K c)) "__init__" = some (some (.ref fI)) ∧ PySem.W.isFn K (.ref fI) = true ∧ Binds K fd ["self", f] [] ∧ FnG P w K mg base (L2.CX P w) 1 fI fd ["self", f] (spI (He.ga K c) f)
section
variable {X : Cx} {g : Gx} {e : Expr} {de : DE} {c f m : Str} {b : EB} {p p2 pos pos2 : Pos}
theorem js_raise {k : Nat} (hc : X.calm = true) (h : HasE X.prog X.w X.K X.mg X.base c f b) (hr : Room (k + 2) X.A) (tk : Takes X g.W) (he : JE X g e de) (hg : Gl X c := by rfl) (hdb : (c == ("__debug__" : Str)) = false := by decide)
    (hs : starEach [e] X.env = (false, eval e X.env) :: starEach [] X.env := by rfl) (hpl : (backTo pos (starEach [] X.env)).any (·.1) = false := by rfl) : JS X g (.Raise (some (.Call (.Name c p) [e] [] pos)) none pos2) (dRaise c f de) := by
  obtain ⟨hm, T, fI, fd, iC, tI, hb, F1⟩ := h
  refine PS.cq (ps_raise hc tk (pmkB T iC tI F1 (hr.mono (by omega)) hb hm (pa_cons he pa_nil hs) hg hdb hs hpl)) fun pins s D σ H I q => ?_
  obtain ⟨l, s, rfl, ok, q⟩ := q
  refine ⟨l, s, rfl, ok, Run.mono (Run.bindS q) fun u H1 ⟨l1, s1, v, e1, ok1, r1, st1, h1⟩ => ⟨u, rfl, fun d hd => ?_⟩⟩
  subst e1
  exact h1 ⟨l1.al, l1.M, upd l1.H d (.xd [(f, u)])⟩ σ _ _ (Step.alloc hd) (ok1.alloc hd) ⟨c, [f], [v], [u], rfl, rfl, rfl, ⟨u, [], rfl, (Step.alloc hd).rep r1, rfl⟩, .inr ⟨d, rfl, ok1.fresh hd, upd_same⟩⟩
end
end L3
namespace L3
open PySem PySem.Spec PyProof.Rows L2
@[simp] def unE (i : Nat) (s : S) : S := wipeS [i] s
/-- try: db / except .. as n: ds, n's slot i; yes: the classes that the clause takes -/
@[simp] def dTryAs (yes : List Str) (i : Nat) (ds db : DS) : DS := fun s => match db s with
  | .exn (.exc c ns xs) s1 => if c ∈ yes then (ds (setE i (.exc c ns xs) s1)).bind fun f s2 => .ok f (unE i s2) else .bad
  | .exn _ _ => .bad
  | r => r
end L3
namespace L3
open PySem PySem.Spec PyProof.Rows L2
@[simp] def fEFld (cs : List Str) (f : Str) : PV → S → R S PV := fun p s => match p with
  | .exc c ns xs => if c ∈ cs then optR (getV f ns xs) s else .bad
  | _ => .bad
end L3
namespace L3
open PySem PySem.Spec PyProof.Rows L2
theorem hasE_of {P : Program} {w : World} {K : PySem.W.Frag} {mg : Str → Option Value} {base : Heap} {c f : Str} {b : EB} {x qual : Str} {params : Arguments} {body : List Stmt} {scope : Scope} {dvs : List V} {kws : List (Str × V)} {fd : FuncData} {q1 q2 q3 q4 : Pos}
    (hm : mg c = some (.ref (He.ga K c))) (h : oxB b c f K = true) (F : FunD K x qual params body scope dvs kws (He.ma K (He.ga K c) "__init__") fd) (hbd : Binds K fd ["self", f] []) (S : FnScope ["self", f] ["self", f] scope)
    (hb : body = [.Assign [.Attribute (.Name "self" q1) f q2] (.Name f q3) q4]) (h1 : (f == ("__debug__" : Str)) = false := by decide) (h2 : (f == ("__classdict__" : Str)) = false := by decide) : HasE P w K mg base c f b := by
  obtain ⟨a1, h⟩ := He.ba h
  obtain ⟨a2, h⟩ := He.ba h
  obtain ⟨a3, h⟩ := He.ba h
  obtain ⟨a4, h⟩ := He.ba h
  obtain ⟨a5, h⟩ := He.ba h
  obtain ⟨a6, h⟩ := He.ba h
  obtain ⟨a7, h⟩ := He.ba h
  obtain ⟨a8, h⟩ := He.ba h
  obtain ⟨a9, a10⟩ := He.ba h
  have T : OxB K b (He.ga K c) := ⟨a1, a2, a3, He.eqO_ok a4, of_decide_eq_true a5, of_decide_eq_true a6, a7⟩
  exact ⟨hm, T, _, fd, He.eqO_ok a8, a9, hbd, initB T (He.eqO_ok a10) F S hb h1 h2⟩
end L3
namespace LD
open PySem L3
def okR (t b : Int) : Bool := decide (ib b ≤ 9000)
/-- slots: _law_script, _law_k, _law_cell -/
def d_w_source : DS := (dSeq (dSet 2 (dIf (dTru (dBin (gEq true) (dVar 0) (dLst dNil))) (dBin fIx (dVar 0) (dBin gMod (dVar 1) (dFn fLen (dCons (dVar 0) dNil)))) (dC (.int 1)))) (dRet (dNewF (dLstF (dCons (dVar 2) (dCons (dBin gMul (dC (.int 3)) (dVar 1)) (dCons (dIf (dTru (dBin gGe (dVar 2) (dBin gPow (dC (.int 10)) (dC (.int 18))))) (dBin gFdiv (dVar 2) (dBin gPow (dC (.int 10)) (dC (.int 18)))) (dC (.int 0))) dNil)))))))
def F_w_source : DF := runBody 3 d_w_source
/-- slots: _law_source_here, _law_many, _law_primes, _law_prime, _law_found -/
def d_w_next : DS := (dSeq (dIfS (dTru (dBin gGt (dBin fIx (dVar 0) (dC (.int 2))) (dC (.int 0)))) (dSeq (dSet 4 (dBin gMod (dBin fIx (dVar 0) (dC (.int 2))) (dVar 1))) (dSeq (dPut 0 (dBin gFdiv (dBin fIx (dVar 0) (dC (.int 2))) (dVar 1)) (dC (.int 2))) (dRet (dVar 4)))) dSkip) (dSeq (dPut 0 (dBin gAdd (dBin fIx (dVar 0) (dC (.int 1))) (dC (.int 1))) (dC (.int 1))) (dSeq (dSet 2 (dLst (dCons (dC (.int 2147483647)) (dCons (dC (.int 2147483629)) (dCons (dC (.int 2147483587)) (dCons (dC (.int 2147483579)) (dCons (dC (.int 2147483563)) (dCons (dC (.int 2147483549)) (dCons (dC (.int 2147483543)) (dCons (dC (.int 2147483497)) dNil)))))))))) (dSeq (dSet 3 (dBin fIx (dBin gAdd (dVar 2) (dLst (dCons (dC (.int 2147483489)) (dCons (dC (.int 2147483477)) (dCons (dC (.int 2147483423)) dNil))))) (dBin gMod (dBin fIx (dVar 0) (dC (.int 1))) (dC (.int 11))))) (dRet (dBin gMod (dBin gFdiv (dBin gMod (dBin gPow (dBin gAdd (dBin gAdd (dBin gMod (dBin fIx (dVar 0) (dC (.int 0))) (dVar 3)) (dBin gMul (dC (.int 7919)) (dBin fIx (dVar 0) (dC (.int 1))))) (dC (.int 1))) (dC (.int 5))) (dVar 3)) (dC (.int 13))) (dVar 1)))))))
def F_w_next : DF := runBody 5 d_w_next
/-- slots: _law_source_here, _law_items -/
def d_w_pick : DS := (dRet (dBin fIx (dVar 1) (dFnS F_w_next (dCons (dVar 0) (dCons (dFn fLen (dCons (dVar 1) dNil)) dNil)))))
def F_w_pick : DF := runBody 2 d_w_pick
/-- slots: _law_top, _law_bottom, _law_one, _law_other -/
def d_w_low : DS := (dSeq (dPar [2, 3] (dCons (dFn fAbsI (dCons (dVar 0) dNil)) (dCons (dFn fAbsI (dCons (dVar 1) dNil)) dNil))) (dSeq (dWhile (fuI 3) (dTru (dBin (gEq true) (dVar 3) (dC (.int 0)))) (dPar [2, 3] (dCons (dVar 3) (dCons (dBin gMod (dVar 2) (dVar 3)) dNil)))) (dRet (dIf (dTru (dBin gGt (dVar 1) (dC (.int 0)))) (dTup (dCons (dBin gFdiv (dVar 0) (dVar 2)) (dCons (dBin gFdiv (dVar 1) (dVar 2)) dNil))) (dTup (dCons (dBin gSub (dC (.int 0)) (dBin gFdiv (dVar 0) (dVar 2))) (dCons (dBin gSub (dC (.int 0)) (dBin gFdiv (dVar 1) (dVar 2))) dNil)))))))
def F_w_low : DF := runBody 4 d_w_low
/-- slots: _law_source_here, _law_way -/
def d_w_drawn : DS := (dSeq (dSet 1 (dFnS F_w_next (dCons (dVar 0) (dCons (dC (.int 4)) dNil)))) (dSeq (dIfS (dTru (dBin gLt (dVar 1) (dC (.int 2)))) (dRet (dTup (dCons (dBin gSub (dFnS F_w_next (dCons (dVar 0) (dCons (dC (.int 9)) dNil))) (dC (.int 3))) (dCons (dC (.int 1)) dNil)))) dSkip) (dRet (dFnS F_w_low (dCons (dBin gSub (dFnS F_w_next (dCons (dVar 0) (dCons (dC (.int 61)) dNil))) (dC (.int 30))) (dCons (dBin gAdd (dC (.int 1)) (dFnS F_w_next (dCons (dVar 0) (dCons (dIf (dTru (dBin (gEq false) (dVar 1) (dC (.int 2)))) (dC (.int 6)) (dC (.int 3))) dNil)))) dNil))))))
def F_w_drawn : DF := runBody 2 d_w_drawn
/-- slots: _law_source_here, _law_most, _law_found, _law_turn -/
def d_w_row : DS := (dSeq (dOwn 2 (dLstF dNil)) (dSeq (dFor (iRange1 (dCons (dFnS F_w_next (dCons (dVar 0) (dCons (dBin gAdd (dVar 1) (dC (.int 1))) dNil))) dNil)) (gN 3) (dExpr (dApp 2 (dBor [2] (dIf (dAndT (dTru (dBin (gEq true) (dVar 2) (dLst dNil))) (dTru (dBin (gEq false) (dFnS F_w_next (dCons (dVar 0) (dCons (dC (.int 4)) dNil))) (dC (.int 0))))) (dFnS F_w_pick (dCons (dVar 0) (dCons (dVar 2) dNil))) (dFnS F_w_drawn (dCons (dVar 0) dNil))))))) (dFrz [2] (dRet (dVar 2)))))
def F_w_row : DF := runBody 4 d_w_row
/-- slots: value -/
def d_is_integer : DS := (dRet (dAnd (dUn (fIsi bInt) (dVar 0)) (dNot (dUn (fIsi bBool) (dVar 0)))))
def F_is_integer : DF := runBody 1 d_is_integer
/-- slots: one, other -/
def d_common_divisor : DS := (dSeq (dPar [0, 1] (dCons (dFn fAbsI (dCons (dVar 0) dNil)) (dCons (dFn fAbsI (dCons (dVar 1) dNil)) dNil))) (dSeq (dWhile (fuI 1) (dTru (dBin gGt (dVar 1) (dC (.int 0)))) (dPar [0, 1] (dCons (dVar 1) (dCons (dBin gMod (dVar 0) (dVar 1)) dNil)))) (dRet (dVar 0))))
def F_common_divisor : DF := runBody 2 d_common_divisor
/-- slots: self, top, bottom, value, divisor -/
def d_Ratio___init__ (CR : Addr) : DS := (dSeq (dFor (iSeq (dTup (dCons (dVar 1) (dCons (dVar 2) dNil)))) (gN 3) (dIfS (dNotT (dTru (dFnS F_is_integer (dCons (dVar 3) dNil)))) dNever dSkip)) (dSeq (dIfS (dTru (dBin (gEq false) (dVar 2) (dC (.int 0)))) dNever dSkip) (dSeq (dSet 4 (dFnS F_common_divisor (dCons (dVar 1) (dCons (dVar 2) dNil)))) (dSeq (dFPut [CR] "own_top" (dVar 0) (dIf (dTru (dBin gGt (dVar 2) (dC (.int 0)))) (dBin gFdiv (dVar 1) (dVar 4)) (dBin gSub (dC (.int 0)) (dBin gFdiv (dVar 1) (dVar 4))))) (dFPut [CR] "own_bottom" (dVar 0) (dBin gFdiv (dFn fAbsI (dCons (dVar 2) dNil)) (dVar 4)))))))
/-- slots: _law_some, _law_top, _law_bottom -/
def d_w_given : DS := (dRet (dFr (dComp (iSeq (dVar 0)) (gT 2 (gCons (gN 1) (gCons (gN 2) gNil))) dYes (dIf (dTru (dBin gGt (dVar 2) (dC (.int 1)))) (dFn (fMakeR okR) (dCons (dVar 1) (dCons (dVar 2) dNil))) (dVar 1)) [1, 2])))
def F_w_given : DF := runBody 3 d_w_given
/-- slots: value -/
def d_is_number : DS := (dRet (dOr (dFnS F_is_integer (dCons (dVar 0) dNil)) (dUn (fIsi bRat) (dVar 0))))
def F_is_number : DF := runBody 1 d_is_number
/-- slots: value -/
def d_need_number : DS := (dIfS (dNotT (dTru (dFnS F_is_number (dCons (dVar 0) dNil)))) (dRaise "BadNumber" "value" (dVar 0)) dSkip)
def F_need_number : DF := runBody 1 d_need_number
/-- slots: value -/
def d_ratio_of : DS := (dRet (dIf (dTru (dUn (fIsi bRat) (dVar 0))) (dVar 0) (dFn (fMakeR okR) (dCons (dVar 0) dNil))))
def F_ratio_of : DF := runBody 1 d_ratio_of
/-- slots: cls, value -/
def d_Ratio_of : DS := (dSeq (dExpr (dFnS F_need_number (dCons (dVar 1) dNil))) (dRet (dFnS F_ratio_of (dCons (dVar 1) dNil))))
def F_Ratio_of : DF := runBody 2 d_Ratio_of
/-- slots: _law_one, _law_other -/
def d_w_plus : DS := (dRet (dFnS F_w_low (dCons (dBin gAdd (dBin gMul (dBin fIx (dVar 0) (dC (.int 0))) (dBin fIx (dVar 1) (dC (.int 1)))) (dBin gMul (dBin fIx (dVar 1) (dC (.int 0))) (dBin fIx (dVar 0) (dC (.int 1))))) (dCons (dBin gMul (dBin fIx (dVar 0) (dC (.int 1))) (dBin fIx (dVar 1) (dC (.int 1)))) dNil))))
def F_w_plus : DF := runBody 2 d_w_plus
/-- slots: _law_some, _law_found, _law_one -/
def d_w_sum : DS := (dSeq (dSet 1 (dTup (dCons (dC (.int 0)) (dCons (dC (.int 1)) dNil)))) (dSeq (dFor (iSeq (dVar 0)) (gN 2) (dSet 1 (dFnS F_w_plus (dCons (dVar 1) (dCons (dVar 2) dNil))))) (dRet (dVar 1))))
def F_w_sum : DF := runBody 3 d_w_sum
/-- slots: _law_one, _law_other -/
def d_w_through : DS := (dRet (dFnS F_w_low (dCons (dBin gMul (dBin fIx (dVar 0) (dC (.int 0))) (dBin fIx (dVar 1) (dC (.int 1)))) (dCons (dBin gMul (dBin fIx (dVar 0) (dC (.int 1))) (dBin fIx (dVar 1) (dC (.int 0)))) dNil))))
def F_w_through : DF := runBody 2 d_w_through
/-- slots: values, bottom, value -/
def d_common : DS := (dSeq (dSet 1 (dC (.int 1))) (dSeq (dFor (iSeq (dVar 0)) (gN 2) (dSet 1 (dBin gMul (dBin gFdiv (dVar 1) (dFnS F_common_divisor (dCons (dVar 1) (dCons (dUn fBot (dVar 2)) dNil)))) (dUn fBot (dVar 2))))) (dRet (dTup (dCons (dFr (dComp (iSeq (dVar 0)) (gN 2) dYes (dBin gMul (dUn fTop (dVar 2)) (dBin gFdiv (dVar 1) (dUn fBot (dVar 2)))) [2])) (dCons (dVar 1) dNil))))))
def F_common : DF := runBody 3 d_common
/-- slots: self -/
def d_Ratio_bottom : DS := (dRet (dUn fBot (dVar 0)))
/-- slots: self -/
def d_Ratio_top : DS := (dRet (dUn fTop (dVar 0)))
/-- slots: _law_value -/
def d_w_taken : DS := (dRet (dIf (dTru (dUn (fIsi bRat) (dVar 0))) (dTup (dCons (dUn fTop (dVar 0)) (dCons (dUn fBot (dVar 0)) dNil))) (dC .non)))
def F_w_taken : DF := runBody 1 d_w_taken
/-- slots: _law_values, _law_value -/
def d_w_all_taken : DS := (dRet (dFr (dComp (iSeq (dVar 0)) (gN 1) dYes (dFnS F_w_taken (dCons (dVar 1) dNil)) [1])))
def F_w_all_taken : DF := runBody 2 d_w_all_taken
end LD
namespace L3
class Ko (a s : Type) where
  run : a → s → Prop
def WD {s a : Type} (r : R s a) (Q : a → s → Prop) : Prop := match r with
  | .ok v t => Q v t
  | _ => False
inductive WI {s a : Type} (r : R s a) [K : Ko a s] : Prop where
  | mk (h : WD r K.run) : WI r
abbrev W {s a : Type} (r : R s a) (Q : a → s → Prop) : Prop := @WI s a r ⟨Q⟩
theorem WI_iff {s a : Type} {r : R s a} {Q : a → s → Prop} : @WI s a r ⟨Q⟩ = WD r Q := propext ⟨fun h => h.1, fun h => @WI.mk s a r ⟨Q⟩ h⟩
section
variable {s a b : Type} {r : R s a} {Q Q' : a → s → Prop}
@[simp] theorem D_ok {v : a} {t : s} {Q : a → s → Prop} : WD (.ok v t) Q = Q v t := rfl
theorem W_ok {v : a} {t : s} {Q : a → s → Prop} : W (.ok v t) Q = Q v t := by
  simp only [W, WI_iff]
  exact D_ok
@[simp] theorem I_ok {v : a} {t : s} {Q : a → s → Prop} : WI (.ok v t) (K := ⟨Q⟩) = Q v t := W_ok
@[simp] theorem D_bad {Q : a → s → Prop} : WD .bad Q = False := rfl
theorem W_bad {Q : a → s → Prop} : W .bad Q = False := by
  simp only [W, WI_iff]
  exact D_bad
@[simp] theorem I_bad {Q : a → s → Prop} : WI .bad (K := ⟨Q⟩) = False := W_bad
@[simp] theorem D_exn {e : PV} {t : s} {Q : a → s → Prop} : WD (.exn e t) Q = False := rfl
theorem W_exn {e : PV} {t : s} {Q : a → s → Prop} : W (.exn e t) Q = False := by
  simp only [W, WI_iff]
  exact D_exn
@[simp] theorem I_exn {e : PV} {t : s} {Q : a → s → Prop} : WI (.exn e t) (K := ⟨Q⟩) = False := W_exn
@[simp] theorem D_bind {k : a → s → R s b} {P : b → s → Prop} : WD (r.bind k) P = WD r (fun v t => WD (k v t) P) := by cases r <;> rfl
theorem W_bind {k : a → s → R s b} {P : b → s → Prop} : W (r.bind k) P = W r (fun v t => W (k v t) P) := by
  simp only [W, WI_iff]
  exact D_bind
@[simp ↓] theorem I_bind {k : a → s → R s b} {P : b → s → Prop} : WI (r.bind k) (K := ⟨P⟩) = WI r (K := ⟨(fun v t => WI (k v t) (K := ⟨P⟩))⟩) := W_bind
theorem WD.mono (h : WD r Q) (i : ∀ v t, Q v t → Q' v t) : WD r Q' := by
  cases r with
  | ok v t => exact i v t h
  | _ => exact h
theorem W.mono (h : W r Q) (i : ∀ v t, Q v t → Q' v t) : W r Q' := by
  simp only [W, WI_iff] at *
  exact WD.mono h i
theorem WD.of {v : a} {t : s} (e : r = .ok v t) (h : Q v t) : WD r Q := by rw [e]; exact h
theorem W.of {v : a} {t : s} (e : r = .ok v t) (h : Q v t) : W r Q := by
  simp only [W, WI_iff]
  exact WD.of e h
theorem WD.out (h : WD r Q) : ∃ v t, r = .ok v t ∧ Q v t := by
  cases r with
  | ok v t => exact ⟨v, t, rfl, h⟩
  | _ => exact h.elim
theorem W.out (h : W r Q) : ∃ v t, r = .ok v t ∧ Q v t := by
  simp only [W, WI_iff] at h
  exact WD.out h
end
section
variable {s : S} {Q : PV → S → Prop} {P : Fl → S → Prop} {T : Bool → S → Prop} {A : List PV → S → Prop} {da db dc : DE} {dr : DA} {ds du : DS} {ta tb : DT} {f f' : PV → PV → S → R S PV} {g : PV → S → R S PV} {fn : List PV → S → R S PV} {F : DF} {i n : Nat} {tg : DG} {dl : DL} {di : DI}
theorem D_dSeq : WD (dSeq ds du s) P = WD (ds s) (fun f s1 => match f with | .nx => WD (du s1) P | .rt v => P (.rt v) s1 | .bk => P .bk s1 | .ct => P .ct s1) := by
  show WD ((ds s).bind _) P = _
  rw [D_bind]
  congr 1
  funext f s1
  cases f <;> rfl
theorem W_dSeq : W (dSeq ds du s) P = W (ds s) (fun f s1 => match f with | .nx => W (du s1) P | .rt v => P (.rt v) s1 | .bk => P .bk s1 | .ct => P .ct s1) := by
  simp only [W, WI_iff]
  exact D_dSeq
@[simp ↓] theorem I_dSeq : WI (dSeq ds du s) (K := ⟨P⟩) = WI (ds s) (K := ⟨(fun f s1 => match f with | .nx => WI (du s1) (K := ⟨P⟩) | .rt v => P (.rt v) s1 | .bk => P .bk s1 | .ct => P .ct s1)⟩) := W_dSeq
theorem D_dSet : WD (dSet i da s) P = WD (da s) (fun v s1 => P .nx (setE i v s1)) := D_bind
theorem W_dSet : W (dSet i da s) P = W (da s) (fun v s1 => P .nx (setE i v s1)) := by
  simp only [W, WI_iff]
  exact D_dSet
@[simp ↓] theorem I_dSet : WI (dSet i da s) (K := ⟨P⟩) = WI (da s) (K := ⟨(fun v s1 => P .nx (setE i v s1))⟩) := W_dSet
theorem D_dExpr : WD (dExpr da s) P = WD (da s) (fun v s1 => P .nx s1) := D_bind
theorem W_dExpr : W (dExpr da s) P = W (da s) (fun v s1 => P .nx s1) := by
  simp only [W, WI_iff]
  exact D_dExpr
@[simp ↓] theorem I_dExpr : WI (dExpr da s) (K := ⟨P⟩) = WI (da s) (K := ⟨(fun v s1 => P .nx s1)⟩) := W_dExpr
theorem D_dRet : WD (dRet da s) P = WD (da s) (fun v s1 => P (.rt v) s1) := D_bind
theorem W_dRet : W (dRet da s) P = W (da s) (fun v s1 => P (.rt v) s1) := by
  simp only [W, WI_iff]
  exact D_dRet
@[simp ↓] theorem I_dRet : WI (dRet da s) (K := ⟨P⟩) = WI (da s) (K := ⟨(fun v s1 => P (.rt v) s1)⟩) := W_dRet
theorem D_dIfS : WD (dIfS ta ds du s) P = WD (ta s) (fun x s1 => if x = true then WD (ds s1) P else WD (du s1) P) := by
  show WD ((ta s).bind _) P = _
  rw [D_bind]
  congr 1
  funext f s1
  cases f <;> simp
theorem W_dIfS : W (dIfS ta ds du s) P = W (ta s) (fun x s1 => if x = true then W (ds s1) P else W (du s1) P) := by
  simp only [W, WI_iff]
  exact D_dIfS
@[simp ↓] theorem I_dIfS : WI (dIfS ta ds du s) (K := ⟨P⟩) = WI (ta s) (K := ⟨(fun x s1 => if x = true then WI (ds s1) (K := ⟨P⟩) else WI (du s1) (K := ⟨P⟩))⟩) := W_dIfS
theorem D_dIf : WD (dIf ta da db s) Q = WD (ta s) (fun x s1 => if x = true then WD (da s1) Q else WD (db s1) Q) := by
  show WD ((ta s).bind _) Q = _
  rw [D_bind]
  congr 1
  funext f s1
  cases f <;> simp
theorem W_dIf : W (dIf ta da db s) Q = W (ta s) (fun x s1 => if x = true then W (da s1) Q else W (db s1) Q) := by
  simp only [W, WI_iff]
  exact D_dIf
@[simp ↓] theorem I_dIf : WI (dIf ta da db s) (K := ⟨Q⟩) = WI (ta s) (K := ⟨(fun x s1 => if x = true then WI (da s1) (K := ⟨Q⟩) else WI (db s1) (K := ⟨Q⟩))⟩) := W_dIf
theorem D_dBin : WD (dBin f da db s) Q = WD (da s) (fun x s1 => WD (db s1) fun y s2 => WD (f x y s2) Q) := by
  show WD ((da s).bind _) Q = _
  rw [D_bind]
  congr 1
  funext x s1
  exact D_bind
theorem W_dBin : W (dBin f da db s) Q = W (da s) (fun x s1 => W (db s1) fun y s2 => W (f x y s2) Q) := by
  simp only [W, WI_iff]
  exact D_dBin
@[simp ↓] theorem I_dBin : WI (dBin f da db s) (K := ⟨Q⟩) = WI (da s) (K := ⟨(fun x s1 => WI (db s1) (K := ⟨fun y s2 => WI (f x y s2) (K := ⟨Q⟩)⟩))⟩) := W_dBin
theorem D_dUn : WD (dUn g da s) Q = WD (da s) (fun x s1 => WD (g x s1) Q) := D_bind
theorem W_dUn : W (dUn g da s) Q = W (da s) (fun x s1 => W (g x s1) Q) := by
  simp only [W, WI_iff]
  exact D_dUn
@[simp ↓] theorem I_dUn : WI (dUn g da s) (K := ⟨Q⟩) = WI (da s) (K := ⟨(fun x s1 => WI (g x s1) (K := ⟨Q⟩))⟩) := W_dUn
theorem D_dNil : WD (dNil s) A = A [] s := rfl
theorem W_dNil : W (dNil s) A = A [] s := by
  simp only [W, WI_iff]
  exact D_dNil
@[simp ↓] theorem I_dNil : WI (dNil s) (K := ⟨A⟩) = A [] s := W_dNil
theorem D_dCons : WD (dCons da dr s) A = WD (da s) (fun x s1 => WD (dr s1) fun xs s2 => A (x :: xs) s2) := by
  show WD ((da s).bind _) A = _
  rw [D_bind]
  congr 1
  funext x s1
  exact D_bind
theorem W_dCons : W (dCons da dr s) A = W (da s) (fun x s1 => W (dr s1) fun xs s2 => A (x :: xs) s2) := by
  simp only [W, WI_iff]
  exact D_dCons
@[simp ↓] theorem I_dCons : WI (dCons da dr s) (K := ⟨A⟩) = WI (da s) (K := ⟨(fun x s1 => WI (dr s1) (K := ⟨fun xs s2 => A (x :: xs) s2⟩))⟩) := W_dCons
theorem D_dFn : WD (dFn fn dr s) Q = WD (dr s) (fun ps s1 => WD (fn ps s1) Q) := D_bind
theorem W_dFn : W (dFn fn dr s) Q = W (dr s) (fun ps s1 => W (fn ps s1) Q) := by
  simp only [W, WI_iff]
  exact D_dFn
@[simp ↓] theorem I_dFn : WI (dFn fn dr s) (K := ⟨Q⟩) = WI (dr s) (K := ⟨(fun ps s1 => WI (fn ps s1) (K := ⟨Q⟩))⟩) := W_dFn
theorem D_dFnS : WD (dFnS F dr s) Q = WD (dr s) (fun ps s1 => WD (F ps s1.mu) (fun v mu => Q v ⟨s1.env, mu⟩)) := by
  show WD ((dr s).bind _) Q = _
  rw [D_bind]
  congr 1
  funext ps s1
  cases F ps s1.mu <;> rfl
theorem W_dFnS : W (dFnS F dr s) Q = W (dr s) (fun ps s1 => W (F ps s1.mu) (fun v mu => Q v ⟨s1.env, mu⟩)) := by
  simp only [W, WI_iff]
  exact D_dFnS
@[simp ↓] theorem I_dFnS : WI (dFnS F dr s) (K := ⟨Q⟩) = WI (dr s) (K := ⟨(fun ps s1 => WI (F ps s1.mu) (K := ⟨(fun v mu => Q v ⟨s1.env, mu⟩)⟩))⟩) := W_dFnS
theorem D_fnS {ps : List PV} : WD (fnS F ps s) Q = WD (F ps s.mu) (fun v mu => Q v ⟨s.env, mu⟩) := by
  show WD (match F ps s.mu with | .ok v mu => _ | .exn e mu => _ | .bad => _) Q = _
  cases F ps s.mu <;> rfl
theorem W_fnS {ps : List PV} : W (fnS F ps s) Q = W (F ps s.mu) (fun v mu => Q v ⟨s.env, mu⟩) := by
  simp only [W, WI_iff]
  exact D_fnS
@[simp ↓] theorem I_fnS {ps : List PV} : WI (fnS F ps s) (K := ⟨Q⟩) = WI (F ps s.mu) (K := ⟨(fun v mu => Q v ⟨s.env, mu⟩)⟩) := W_fnS
theorem D_fMt {ps : List PV} : WD (fMt n F ps s) Q = (ps.length = n ∧ WD (F ps s.mu) (fun v mu => Q v ⟨s.env, mu⟩)) := by
  show WD (if ps.length = n then fnS F ps s else .bad) Q = _
  by_cases h : ps.length = n
  · rw [if_pos h, D_fnS]; simp [h]
  · rw [if_neg h]; simp [h]
theorem W_fMt {ps : List PV} : W (fMt n F ps s) Q = (ps.length = n ∧ W (F ps s.mu) (fun v mu => Q v ⟨s.env, mu⟩)) := by
  simp only [W, WI_iff]
  exact D_fMt
@[simp ↓] theorem I_fMt {ps : List PV} : WI (fMt n F ps s) (K := ⟨Q⟩) = (ps.length = n ∧ WI (F ps s.mu) (K := ⟨(fun v mu => Q v ⟨s.env, mu⟩)⟩)) := W_fMt
theorem D_fCm {ps : List PV} {C : PySem.Addr} : WD (fCm n C F ps s) Q = (ps.length + 1 = n ∧ WD (F (.adr C :: ps) s.mu) (fun v mu => Q v ⟨s.env, mu⟩)) := by
  show WD (if ps.length + 1 = n then fnS F (.adr C :: ps) s else .bad) Q = _
  by_cases h : ps.length + 1 = n
  · rw [if_pos h, D_fnS]; simp [h]
  · rw [if_neg h]; simp [h]
theorem W_fCm {ps : List PV} {C : PySem.Addr} : W (fCm n C F ps s) Q = (ps.length + 1 = n ∧ W (F (.adr C :: ps) s.mu) (fun v mu => Q v ⟨s.env, mu⟩)) := by
  simp only [W, WI_iff]
  exact D_fCm
@[simp ↓] theorem I_fCm {ps : List PV} {C : PySem.Addr} : WI (fCm n C F ps s) (K := ⟨Q⟩) = (ps.length + 1 = n ∧ WI (F (.adr C :: ps) s.mu) (K := ⟨(fun v mu => Q v ⟨s.env, mu⟩)⟩)) := W_fCm
theorem D_dTup : WD (dTup dr s) Q = WD (dr s) (fun xs s1 => xs.length ≤ 1000 ∧ Q (.tup xs) s1) := by
  show WD ((dr s).bind _) Q = _
  rw [D_bind]
  congr 1
  funext xs s1
  by_cases h : xs.length ≤ 1000 <;> simp [h]
theorem W_dTup : W (dTup dr s) Q = W (dr s) (fun xs s1 => xs.length ≤ 1000 ∧ Q (.tup xs) s1) := by
  simp only [W, WI_iff]
  exact D_dTup
@[simp ↓] theorem I_dTup : WI (dTup dr s) (K := ⟨Q⟩) = WI (dr s) (K := ⟨(fun xs s1 => xs.length ≤ 1000 ∧ Q (.tup xs) s1)⟩) := W_dTup
theorem D_dLst : WD (dLst dr s) Q = WD (dr s) (fun xs s1 => xs.length ≤ 1000 ∧ Q (.lst xs) s1) := by
  show WD ((dr s).bind _) Q = _
  rw [D_bind]
  congr 1
  funext xs s1
  by_cases h : xs.length ≤ 1000 <;> simp [h]
theorem W_dLst : W (dLst dr s) Q = W (dr s) (fun xs s1 => xs.length ≤ 1000 ∧ Q (.lst xs) s1) := by
  simp only [W, WI_iff]
  exact D_dLst
@[simp ↓] theorem I_dLst : WI (dLst dr s) (K := ⟨Q⟩) = WI (dr s) (K := ⟨(fun xs s1 => xs.length ≤ 1000 ∧ Q (.lst xs) s1)⟩) := W_dLst
theorem D_dLstF {B : List PV → S → Prop} : WD (dLstF dr s) B = WD (dr s) (fun xs s1 => xs.length ≤ 1000 ∧ B xs s1) := by
  show WD ((dr s).bind _) B = _
  rw [D_bind]
  congr 1
  funext xs s1
  by_cases h : xs.length ≤ 1000 <;> simp [h]
theorem W_dLstF {B : List PV → S → Prop} : W (dLstF dr s) B = W (dr s) (fun xs s1 => xs.length ≤ 1000 ∧ B xs s1) := by
  simp only [W, WI_iff]
  exact D_dLstF
@[simp ↓] theorem I_dLstF {B : List PV → S → Prop} : WI (dLstF dr s) (K := ⟨B⟩) = WI (dr s) (K := ⟨(fun xs s1 => xs.length ≤ 1000 ∧ B xs s1)⟩) := W_dLstF
theorem D_dFr : WD (dFr dl s) Q = WD (dl s) (fun xs s1 => Q (.lst xs) s1) := D_bind
theorem W_dFr : W (dFr dl s) Q = W (dl s) (fun xs s1 => Q (.lst xs) s1) := by
  simp only [W, WI_iff]
  exact D_dFr
@[simp ↓] theorem I_dFr : WI (dFr dl s) (K := ⟨Q⟩) = WI (dl s) (K := ⟨(fun xs s1 => Q (.lst xs) s1)⟩) := W_dFr
theorem D_dTru : WD (dTru da s) T = WD (da s) (fun v s1 => match truP v with | some b => T b s1 | none => False) := by
  show WD ((da s).bind _) T = _
  rw [D_bind]
  congr 1
  funext v s1
  cases truP v <;> rfl
theorem W_dTru : W (dTru da s) T = W (da s) (fun v s1 => match truP v with | some b => T b s1 | none => False) := by
  simp only [W, WI_iff]
  exact D_dTru
@[simp ↓] theorem I_dTru : WI (dTru da s) (K := ⟨T⟩) = WI (da s) (K := ⟨(fun v s1 => match truP v with | some b => T b s1 | none => False)⟩) := W_dTru
theorem D_dAndT : WD (dAndT ta tb s) T = WD (ta s) (fun x s1 => if x = true then WD (tb s1) T else T false s1) := by
  show WD ((ta s).bind _) T = _
  rw [D_bind]
  congr 1
  funext f s1
  cases f <;> simp
theorem W_dAndT : W (dAndT ta tb s) T = W (ta s) (fun x s1 => if x = true then W (tb s1) T else T false s1) := by
  simp only [W, WI_iff]
  exact D_dAndT
@[simp ↓] theorem I_dAndT : WI (dAndT ta tb s) (K := ⟨T⟩) = WI (ta s) (K := ⟨(fun x s1 => if x = true then WI (tb s1) (K := ⟨T⟩) else T false s1)⟩) := W_dAndT
theorem D_dOrT : WD (dOrT ta tb s) T = WD (ta s) (fun x s1 => if x = true then T true s1 else WD (tb s1) T) := by
  show WD ((ta s).bind _) T = _
  rw [D_bind]
  congr 1
  funext f s1
  cases f <;> simp
theorem W_dOrT : W (dOrT ta tb s) T = W (ta s) (fun x s1 => if x = true then T true s1 else W (tb s1) T) := by
  simp only [W, WI_iff]
  exact D_dOrT
@[simp ↓] theorem I_dOrT : WI (dOrT ta tb s) (K := ⟨T⟩) = WI (ta s) (K := ⟨(fun x s1 => if x = true then T true s1 else WI (tb s1) (K := ⟨T⟩))⟩) := W_dOrT
theorem D_dNotT : WD (dNotT ta s) T = WD (ta s) (fun x s1 => T (!x) s1) := D_bind
theorem W_dNotT : W (dNotT ta s) T = W (ta s) (fun x s1 => T (!x) s1) := by
  simp only [W, WI_iff]
  exact D_dNotT
@[simp ↓] theorem I_dNotT : WI (dNotT ta s) (K := ⟨T⟩) = WI (ta s) (K := ⟨(fun x s1 => T (!x) s1)⟩) := W_dNotT
theorem D_dAnd : WD (dAnd da db s) Q = WD (da s) (fun x s1 => match x with | .bl true => WD (db s1) Q | .bl false => Q (.bl false) s1 | _ => False) := by
  show WD ((da s).bind _) Q = _
  rw [D_bind]
  congr 1
  funext x s1
  cases x <;> first | rfl | (rename_i b; cases b <;> rfl)
theorem W_dAnd : W (dAnd da db s) Q = W (da s) (fun x s1 => match x with | .bl true => W (db s1) Q | .bl false => Q (.bl false) s1 | _ => False) := by
  simp only [W, WI_iff]
  exact D_dAnd
@[simp ↓] theorem I_dAnd : WI (dAnd da db s) (K := ⟨Q⟩) = WI (da s) (K := ⟨(fun x s1 => match x with | .bl true => WI (db s1) (K := ⟨Q⟩) | .bl false => Q (.bl false) s1 | _ => False)⟩) := W_dAnd
theorem D_dOr : WD (dOr da db s) Q = WD (da s) (fun x s1 => match x with | .bl true => Q (.bl true) s1 | .bl false => WD (db s1) Q | _ => False) := by
  show WD ((da s).bind _) Q = _
  rw [D_bind]
  congr 1
  funext x s1
  cases x <;> first | rfl | (rename_i b; cases b <;> rfl)
theorem W_dOr : W (dOr da db s) Q = W (da s) (fun x s1 => match x with | .bl true => Q (.bl true) s1 | .bl false => W (db s1) Q | _ => False) := by
  simp only [W, WI_iff]
  exact D_dOr
@[simp ↓] theorem I_dOr : WI (dOr da db s) (K := ⟨Q⟩) = WI (da s) (K := ⟨(fun x s1 => match x with | .bl true => Q (.bl true) s1 | .bl false => WI (db s1) (K := ⟨Q⟩) | _ => False)⟩) := W_dOr
theorem D_dNot : WD (dNot da s) Q = WD (da s) (fun x s1 => match x with | .bl b => Q (.bl (!b)) s1 | _ => False) := by
  show WD ((da s).bind _) Q = _
  rw [D_bind]
  congr 1
  funext x s1
  cases x <;> rfl
theorem W_dNot : W (dNot da s) Q = W (da s) (fun x s1 => match x with | .bl b => Q (.bl (!b)) s1 | _ => False) := by
  simp only [W, WI_iff]
  exact D_dNot
@[simp ↓] theorem I_dNot : WI (dNot da s) (K := ⟨Q⟩) = WI (da s) (K := ⟨(fun x s1 => match x with | .bl b => Q (.bl (!b)) s1 | _ => False)⟩) := W_dNot
theorem D_dChain : WD (dChain f f' da db dc s) Q = WD (da s) (fun x s1 => WD (db s1) fun y s2 => WD (f x y s2) fun z s3 => match z with | .bl true => WD (dc s3) (fun w s4 => WD (f' y w s4) Q) | .bl false => Q (.bl false) s3 | _ => False) := by
  show WD ((da s).bind _) Q = _
  rw [D_bind]
  congr 1
  funext x s1
  rw [D_bind]
  congr 1
  funext y s2
  rw [D_bind]
  congr 1
  funext z s3
  cases z <;> first | rfl | (rename_i b; cases b <;> first | rfl | exact D_bind)
theorem W_dChain : W (dChain f f' da db dc s) Q = W (da s) (fun x s1 => W (db s1) fun y s2 => W (f x y s2) fun z s3 => match z with | .bl true => W (dc s3) (fun w s4 => W (f' y w s4) Q) | .bl false => Q (.bl false) s3 | _ => False) := by
  simp only [W, WI_iff]
  exact D_dChain
@[simp ↓] theorem I_dChain : WI (dChain f f' da db dc s) (K := ⟨Q⟩) = WI (da s) (K := ⟨(fun x s1 => WI (db s1) (K := ⟨fun y s2 => WI (f x y s2) (K := ⟨fun z s3 => match z with | .bl true => WI (dc s3) (K := ⟨(fun w s4 => WI (f' y w s4) (K := ⟨Q⟩))⟩) | .bl false => Q (.bl false) s3 | _ => False⟩)⟩))⟩) := W_dChain
theorem D_dPar {js : List Nat} : WD (dPar js dr s) P = WD (dr s) (fun vs s1 => match setP js vs s1 with | some s2 => P .nx s2 | none => False) := by
  show WD ((dr s).bind _) P = _
  rw [D_bind]
  congr 1
  funext v s1
  cases setP js v s1 <;> rfl
theorem W_dPar {js : List Nat} : W (dPar js dr s) P = W (dr s) (fun vs s1 => match setP js vs s1 with | some s2 => P .nx s2 | none => False) := by
  simp only [W, WI_iff]
  exact D_dPar
@[simp ↓] theorem I_dPar {js : List Nat} : WI (dPar js dr s) (K := ⟨P⟩) = WI (dr s) (K := ⟨(fun vs s1 => match setP js vs s1 with | some s2 => P .nx s2 | none => False)⟩) := W_dPar
theorem D_dAsgX {js : List Nat} {dx : DX} : WD (dAsgX js dx s) P = WD (dx s) (fun vs s1 => match setX js vs s1 with | some s2 => P .nx s2 | none => False) := by
  show WD ((dx s).bind _) P = _
  rw [D_bind]
  congr 1
  funext v s1
  cases setX js v s1 <;> rfl
theorem W_dAsgX {js : List Nat} {dx : DX} : W (dAsgX js dx s) P = W (dx s) (fun vs s1 => match setX js vs s1 with | some s2 => P .nx s2 | none => False) := by
  simp only [W, WI_iff]
  exact D_dAsgX
@[simp ↓] theorem I_dAsgX {js : List Nat} {dx : DX} : WI (dAsgX js dx s) (K := ⟨P⟩) = WI (dx s) (K := ⟨(fun vs s1 => match setX js vs s1 with | some s2 => P .nx s2 | none => False)⟩) := W_dAsgX
theorem D_xVal {dx : DX} {B : List SV → S → Prop} : WD (xVal da dx s) B = WD (da s) (fun v s1 => WD (dx s1) fun vs s2 => B (.val v :: vs) s2) := by
  show WD ((da s).bind _) B = _
  rw [D_bind]
  congr 1
  funext x s1
  exact D_bind
theorem W_xVal {dx : DX} {B : List SV → S → Prop} : W (xVal da dx s) B = W (da s) (fun v s1 => W (dx s1) fun vs s2 => B (.val v :: vs) s2) := by
  simp only [W, WI_iff]
  exact D_xVal
@[simp ↓] theorem I_xVal {dx : DX} {B : List SV → S → Prop} : WI (xVal da dx s) (K := ⟨B⟩) = WI (da s) (K := ⟨(fun v s1 => WI (dx s1) (K := ⟨fun vs s2 => B (.val v :: vs) s2⟩))⟩) := W_xVal
theorem D_xOwn {dx : DX} {B : List SV → S → Prop} : WD (xOwn dl dx s) B = WD (dl s) (fun v s1 => WD (dx s1) fun vs s2 => B (.own v :: vs) s2) := by
  show WD ((dl s).bind _) B = _
  rw [D_bind]
  congr 1
  funext x s1
  exact D_bind
theorem W_xOwn {dx : DX} {B : List SV → S → Prop} : W (xOwn dl dx s) B = W (dl s) (fun v s1 => W (dx s1) fun vs s2 => B (.own v :: vs) s2) := by
  simp only [W, WI_iff]
  exact D_xOwn
@[simp ↓] theorem I_xOwn {dx : DX} {B : List SV → S → Prop} : WI (xOwn dl dx s) (K := ⟨B⟩) = WI (dl s) (K := ⟨(fun v s1 => WI (dx s1) (K := ⟨fun vs s2 => B (.own v :: vs) s2⟩))⟩) := W_xOwn
theorem D_tgt {b : Type} {r : R S Unit} {k : S → R S b} {B : b → S → Prop} : WD (tgt r k) B = WD r (fun _ s1 => WD (k s1) B) := by
  cases r <;> rfl
theorem W_tgt {b : Type} {r : R S Unit} {k : S → R S b} {B : b → S → Prop} : W (tgt r k) B = W r (fun _ s1 => W (k s1) B) := by
  simp only [W, WI_iff]
  exact D_tgt
@[simp ↓] theorem I_tgt {b : Type} {r : R S Unit} {k : S → R S b} {B : b → S → Prop} : WI (tgt r k) (K := ⟨B⟩) = WI r (K := ⟨(fun _ s1 => WI (k s1) (K := ⟨B⟩))⟩) := W_tgt
theorem D_dAsg : WD (dAsg da tg s) P = WD (da s) (fun v s1 => WD (tg v s1) fun _ s2 => P .nx s2) := by
  show WD ((da s).bind _) P = _
  rw [D_bind]
  congr 1
  funext v s1
  exact D_tgt
theorem W_dAsg : W (dAsg da tg s) P = W (da s) (fun v s1 => W (tg v s1) fun _ s2 => P .nx s2) := by
  simp only [W, WI_iff]
  exact D_dAsg
@[simp ↓] theorem I_dAsg : WI (dAsg da tg s) (K := ⟨P⟩) = WI (da s) (K := ⟨(fun v s1 => WI (tg v s1) (K := ⟨fun _ s2 => P .nx s2⟩))⟩) := W_dAsg
theorem D_dFor : WD (dFor di tg ds s) P = WD (di s) (fun xs s1 => WD (forL tg ds xs s1) P) := D_bind
theorem W_dFor : W (dFor di tg ds s) P = W (di s) (fun xs s1 => W (forL tg ds xs s1) P) := by
  simp only [W, WI_iff]
  exact D_dFor
@[simp ↓] theorem I_dFor : WI (dFor di tg ds s) (K := ⟨P⟩) = WI (di s) (K := ⟨(fun xs s1 => WI (forL tg ds xs s1) (K := ⟨P⟩))⟩) := W_dFor
theorem D_dFrz {is : List Nat} : WD (dFrz is ds s) P = WD (ds (frozS is s)) P := rfl
theorem W_dFrz {is : List Nat} : W (dFrz is ds s) P = W (ds (frozS is s)) P := by
  simp only [W, WI_iff]
  exact D_dFrz
@[simp ↓] theorem I_dFrz {is : List Nat} : WI (dFrz is ds s) (K := ⟨P⟩) = WI (ds (frozS is s)) (K := ⟨P⟩) := W_dFrz
theorem D_dOwn : WD (dOwn i dl s) P = WD (dl s) (fun xs s1 => P .nx (setO i xs s1)) := D_bind
theorem W_dOwn : W (dOwn i dl s) P = W (dl s) (fun xs s1 => P .nx (setO i xs s1)) := by
  simp only [W, WI_iff]
  exact D_dOwn
@[simp ↓] theorem I_dOwn : WI (dOwn i dl s) (K := ⟨P⟩) = WI (dl s) (K := ⟨(fun xs s1 => P .nx (setO i xs s1))⟩) := W_dOwn
theorem D_dNewF : WD (dNewF dl s) Q = WD (dl s) (fun xs s1 => Q (.ptr s1.mu.length) ⟨s1.env, s1.mu ++ [.lst xs]⟩) := D_bind
theorem W_dNewF : W (dNewF dl s) Q = W (dl s) (fun xs s1 => Q (.ptr s1.mu.length) ⟨s1.env, s1.mu ++ [.lst xs]⟩) := by
  simp only [W, WI_iff]
  exact D_dNewF
@[simp ↓] theorem I_dNewF : WI (dNewF dl s) (K := ⟨Q⟩) = WI (dl s) (K := ⟨(fun xs s1 => Q (.ptr s1.mu.length) ⟨s1.env, s1.mu ++ [.lst xs]⟩)⟩) := W_dNewF
theorem D_dBor {is : List Nat} : WD (dBor is da s) Q = (ownIn is s.env = true ∧ WD (da (frozS is s)) (fun v s1 => flatP v = true ∧ flatMs s1.mu = true ∧ Q v ⟨s.env, s1.mu⟩)) := by
  show WD (if ownIn is s.env = true then _ else _) Q = _
  by_cases h : ownIn is s.env = true
  · rw [if_pos h]
    cases da (frozS is s) with
    | ok v t =>
      show WD (if flatP v = true ∧ flatMs t.mu = true then _ else _) Q = _
      by_cases h2 : flatP v = true ∧ flatMs t.mu = true
      · rw [if_pos h2]; simp [h, h2]
      · rw [if_neg h2]
        simp only [D_bad, D_ok, h, true_and, eq_iff_iff, false_iff]
        exact fun z => h2 ⟨z.1, z.2.1⟩
    | _ => simp
  · rw [if_neg h]; simp [h]
theorem W_dBor {is : List Nat} : W (dBor is da s) Q = (ownIn is s.env = true ∧ W (da (frozS is s)) (fun v s1 => flatP v = true ∧ flatMs s1.mu = true ∧ Q v ⟨s.env, s1.mu⟩)) := by
  simp only [W, WI_iff]
  exact D_dBor
@[simp ↓] theorem I_dBor {is : List Nat} : WI (dBor is da s) (K := ⟨Q⟩) = (ownIn is s.env = true ∧ WI (da (frozS is s)) (K := ⟨(fun v s1 => flatP v = true ∧ flatMs s1.mu = true ∧ Q v ⟨s.env, s1.mu⟩)⟩)) := W_dBor
theorem D_dBorT {is : List Nat} : WD (dBorT is ta s) T = (ownIn is s.env = true ∧ WD (ta (frozS is s)) (fun v s1 => flatMs s1.mu = true ∧ T v ⟨s.env, s1.mu⟩)) := by
  show WD (if ownIn is s.env = true then _ else _) T = _
  by_cases h : ownIn is s.env = true
  · rw [if_pos h]
    cases ta (frozS is s) with
    | ok v t =>
      show WD (if flatMs t.mu = true then _ else _) T = _
      by_cases h2 : flatMs t.mu = true
      · rw [if_pos h2]; simp [h, h2]
      · rw [if_neg h2]
        simp only [D_bad, D_ok, h, true_and, eq_iff_iff, false_iff]
        exact fun z => h2 z.1
    | _ => simp
  · rw [if_neg h]; simp [h]
theorem W_dBorT {is : List Nat} : W (dBorT is ta s) T = (ownIn is s.env = true ∧ W (ta (frozS is s)) (fun v s1 => flatMs s1.mu = true ∧ T v ⟨s.env, s1.mu⟩)) := by
  simp only [W, WI_iff]
  exact D_dBorT
@[simp ↓] theorem I_dBorT {is : List Nat} : WI (dBorT is ta s) (K := ⟨T⟩) = (ownIn is s.env = true ∧ WI (ta (frozS is s)) (K := ⟨(fun v s1 => flatMs s1.mu = true ∧ T v ⟨s.env, s1.mu⟩)⟩)) := W_dBorT
theorem D_dApp {Q : PV → S → Prop} : WD (dApp i da s) Q = ((lstAt i s).isSome = true ∧ WD (da s) (fun v s1 => match lstAt i s1 with | some (xs, k) => xs.length < 16777216 ∧ Q .non (k (xs ++ [v])) | none => False)) := by
  show WD (match lstAt i s with | some _ => _ | none => _) Q = _
  cases e : lstAt i s with
  | none => simp
  | some z =>
    rw [D_bind]
    simp only [Option.isSome_some, true_and]
    congr 1
    funext v s1
    cases lstAt i s1 with
    | none => rfl
    | some y =>
      obtain ⟨xs, k⟩ := y
      show WD (if xs.length < 16777216 then _ else _) Q = _
      by_cases h : xs.length < 16777216 <;> simp [h]
theorem W_dApp {Q : PV → S → Prop} : W (dApp i da s) Q = ((lstAt i s).isSome = true ∧ W (da s) (fun v s1 => match lstAt i s1 with | some (xs, k) => xs.length < 16777216 ∧ Q .non (k (xs ++ [v])) | none => False)) := by
  simp only [W, WI_iff]
  exact D_dApp
@[simp ↓] theorem I_dApp {Q : PV → S → Prop} : WI (dApp i da s) (K := ⟨Q⟩) = ((lstAt i s).isSome = true ∧ WI (da s) (K := ⟨(fun v s1 => match lstAt i s1 with | some (xs, k) => xs.length < 16777216 ∧ Q .non (k (xs ++ [v])) | none => False)⟩)) := W_dApp
theorem D_dSlice {lo hi : DO} : WD (dSlice da lo hi s) Q = WD (da s) (fun v s1 => WD (lo s1) fun a s2 => WD (hi s2) fun b s3 => WD (fCut v a b s3) Q) := by
  show WD ((da s).bind _) Q = _
  rw [D_bind]
  congr 1
  funext x s1
  rw [D_bind]
  congr 1
  funext y s2
  exact D_bind
theorem W_dSlice {lo hi : DO} : W (dSlice da lo hi s) Q = W (da s) (fun v s1 => W (lo s1) fun a s2 => W (hi s2) fun b s3 => W (fCut v a b s3) Q) := by
  simp only [W, WI_iff]
  exact D_dSlice
@[simp ↓] theorem I_dSlice {lo hi : DO} : WI (dSlice da lo hi s) (K := ⟨Q⟩) = WI (da s) (K := ⟨(fun v s1 => WI (lo s1) (K := ⟨fun a s2 => WI (hi s2) (K := ⟨fun b s3 => WI (fCut v a b s3) (K := ⟨Q⟩)⟩)⟩))⟩) := W_dSlice
theorem D_dSome {B : Option Int → S → Prop} : WD (dSome da s) B = WD (da s) (fun v s1 => match v with | .int i => B (some i) s1 | _ => False) := by
  show WD ((da s).bind _) B = _
  rw [D_bind]
  congr 1
  funext v s1
  cases v <;> rfl
theorem W_dSome {B : Option Int → S → Prop} : W (dSome da s) B = W (da s) (fun v s1 => match v with | .int i => B (some i) s1 | _ => False) := by
  simp only [W, WI_iff]
  exact D_dSome
@[simp ↓] theorem I_dSome {B : Option Int → S → Prop} : WI (dSome da s) (K := ⟨B⟩) = WI (da s) (K := ⟨(fun v s1 => match v with | .int i => B (some i) s1 | _ => False)⟩) := W_dSome
theorem D_dComp {B : List PV → S → Prop} {vs : List Nat} : WD (dComp di tg ta da vs s) B = WD (di s) (fun xs s1 => WD (compL tg ta da vs xs [] (wipeS vs s1)) B) := D_bind
theorem W_dComp {B : List PV → S → Prop} {vs : List Nat} : W (dComp di tg ta da vs s) B = W (di s) (fun xs s1 => W (compL tg ta da vs xs [] (wipeS vs s1)) B) := by
  simp only [W, WI_iff]
  exact D_dComp
@[simp ↓] theorem I_dComp {B : List PV → S → Prop} {vs : List Nat} : WI (dComp di tg ta da vs s) (K := ⟨B⟩) = WI (di s) (K := ⟨(fun xs s1 => WI (compL tg ta da vs xs [] (wipeS vs s1)) (K := ⟨B⟩))⟩) := W_dComp
theorem D_dMethR : WD (dMethR fn da dr s) Q = WD (da s) (fun p s1 => match p with | .rat q => WD (dr s1) (fun xs s2 => WD (fn (.rat q :: xs) s2) Q) | _ => False) := by
  show WD ((da s).bind _) Q = _
  rw [D_bind]
  congr 1
  funext p s1
  cases p <;> first | rfl | exact D_bind
theorem W_dMethR : W (dMethR fn da dr s) Q = W (da s) (fun p s1 => match p with | .rat q => W (dr s1) (fun xs s2 => W (fn (.rat q :: xs) s2) Q) | _ => False) := by
  simp only [W, WI_iff]
  exact D_dMethR
@[simp ↓] theorem I_dMethR : WI (dMethR fn da dr s) (K := ⟨Q⟩) = WI (da s) (K := ⟨(fun p s1 => match p with | .rat q => WI (dr s1) (K := ⟨(fun xs s2 => WI (fn (.rat q :: xs) s2) (K := ⟨Q⟩))⟩) | _ => False)⟩) := W_dMethR
theorem D_iSeq {B : List PV → S → Prop} : WD (iSeq da s) B = WD (da s) (fun v s1 => match v with | .lst xs => B xs s1 | .tup xs => B xs s1 | .frz xs => B xs s1 | _ => False) := by
  show WD ((da s).bind _) B = _
  rw [D_bind]
  congr 1
  funext v s1
  cases v <;> rfl
theorem W_iSeq {B : List PV → S → Prop} : W (iSeq da s) B = W (da s) (fun v s1 => match v with | .lst xs => B xs s1 | .tup xs => B xs s1 | .frz xs => B xs s1 | _ => False) := by
  simp only [W, WI_iff]
  exact D_iSeq
@[simp ↓] theorem I_iSeq {B : List PV → S → Prop} : WI (iSeq da s) (K := ⟨B⟩) = WI (da s) (K := ⟨(fun v s1 => match v with | .lst xs => B xs s1 | .tup xs => B xs s1 | .frz xs => B xs s1 | _ => False)⟩) := W_iSeq
theorem D_iRange1 {B : List PV → S → Prop} : WD (iRange1 dr s) B = WD (dr s) (fun vs s1 => match vs with | [.int j] => (-(2 ^ 62) ≤ j ∧ j < 2 ^ 62) ∧ B (rangeP 0 j.toNat) s1 | _ => False) := by
  show WD ((dr s).bind _) B = _
  rw [D_bind]
  congr 1
  funext vs s1
  split
  · rename_i j
    by_cases h : -(2 ^ 62) ≤ j ∧ j < 2 ^ 62
    · rw [if_pos h]; simp only [h, true_and, D_ok, and_self]
    · rw [if_neg h]; simp only [h, false_and, D_bad]
  · first | (split <;> simp_all) | simp_all | simp
theorem W_iRange1 {B : List PV → S → Prop} : W (iRange1 dr s) B = W (dr s) (fun vs s1 => match vs with | [.int j] => (-(2 ^ 62) ≤ j ∧ j < 2 ^ 62) ∧ B (rangeP 0 j.toNat) s1 | _ => False) := by
  simp only [W, WI_iff]
  exact D_iRange1
@[simp ↓] theorem I_iRange1 {B : List PV → S → Prop} : WI (iRange1 dr s) (K := ⟨B⟩) = WI (dr s) (K := ⟨(fun vs s1 => match vs with | [.int j] => (-(2 ^ 62) ≤ j ∧ j < 2 ^ 62) ∧ B (rangeP 0 j.toNat) s1 | _ => False)⟩) := W_iRange1
theorem D_iRange2 {B : List PV → S → Prop} : WD (iRange2 dr s) B = WD (dr s) (fun vs s1 => match vs with | [.int i, .int j] => (-(2 ^ 62) ≤ i ∧ i < 2 ^ 62 ∧ -(2 ^ 62) ≤ j ∧ j < 2 ^ 62) ∧ B (rangeP i (j - i).toNat) s1 | _ => False) := by
  show WD ((dr s).bind _) B = _
  rw [D_bind]
  congr 1
  funext vs s1
  split
  · rename_i i j
    by_cases h : -(2 ^ 62) ≤ i ∧ i < 2 ^ 62 ∧ -(2 ^ 62) ≤ j ∧ j < 2 ^ 62
    · rw [if_pos h]; simp only [h, true_and, D_ok, and_self]
    · rw [if_neg h]; simp only [h, false_and, D_bad]
  · first | (split <;> simp_all) | simp_all | simp
theorem W_iRange2 {B : List PV → S → Prop} : W (iRange2 dr s) B = W (dr s) (fun vs s1 => match vs with | [.int i, .int j] => (-(2 ^ 62) ≤ i ∧ i < 2 ^ 62 ∧ -(2 ^ 62) ≤ j ∧ j < 2 ^ 62) ∧ B (rangeP i (j - i).toNat) s1 | _ => False) := by
  simp only [W, WI_iff]
  exact D_iRange2
@[simp ↓] theorem I_iRange2 {B : List PV → S → Prop} : WI (iRange2 dr s) (K := ⟨B⟩) = WI (dr s) (K := ⟨(fun vs s1 => match vs with | [.int i, .int j] => (-(2 ^ 62) ≤ i ∧ i < 2 ^ 62 ∧ -(2 ^ 62) ≤ j ∧ j < 2 ^ 62) ∧ B (rangeP i (j - i).toNat) s1 | _ => False)⟩) := W_iRange2
theorem D_iEnumQ {B : List PV → S → Prop} : WD (iEnumQ dr s) B = WD (dr s) (fun vs s1 => match vs with | [.lst xs] => B (enumP xs) s1 | [.tup xs] => B (enumP xs) s1 | _ => False) := by
  show WD ((dr s).bind _) B = _
  rw [D_bind]
  congr 1
  funext vs s1
  split <;> simp_all
theorem W_iEnumQ {B : List PV → S → Prop} : W (iEnumQ dr s) B = W (dr s) (fun vs s1 => match vs with | [.lst xs] => B (enumP xs) s1 | [.tup xs] => B (enumP xs) s1 | _ => False) := by
  simp only [W, WI_iff]
  exact D_iEnumQ
@[simp ↓] theorem I_iEnumQ {B : List PV → S → Prop} : WI (iEnumQ dr s) (K := ⟨B⟩) = WI (dr s) (K := ⟨(fun vs s1 => match vs with | [.lst xs] => B (enumP xs) s1 | [.tup xs] => B (enumP xs) s1 | _ => False)⟩) := W_iEnumQ
theorem D_iZip {B : List PV → S → Prop} : WD (iZip dr s) B = WD (dr s) (fun vs s1 => match vs with | [.lst xs, .lst ys] => B (zipP xs ys) s1 | [.tup xs, .tup ys] => B (zipP xs ys) s1 | _ => False) := by
  show WD ((dr s).bind _) B = _
  rw [D_bind]
  congr 1
  funext vs s1
  split <;> simp_all
theorem W_iZip {B : List PV → S → Prop} : W (iZip dr s) B = W (dr s) (fun vs s1 => match vs with | [.lst xs, .lst ys] => B (zipP xs ys) s1 | [.tup xs, .tup ys] => B (zipP xs ys) s1 | _ => False) := by
  simp only [W, WI_iff]
  exact D_iZip
@[simp ↓] theorem I_iZip {B : List PV → S → Prop} : WI (iZip dr s) (K := ⟨B⟩) = WI (dr s) (K := ⟨(fun vs s1 => match vs with | [.lst xs, .lst ys] => B (zipP xs ys) s1 | [.tup xs, .tup ys] => B (zipP xs ys) s1 | _ => False)⟩) := W_iZip
theorem D_dListF {B : List PV → S → Prop} : WD (dListF da s) B = WD (da s) (fun p s1 => match asL s1.mu p with | some xs => B xs s1 | none => False) := by
  show WD ((da s).bind _) B = _
  rw [D_bind]
  congr 1
  funext v s1
  cases h : asL s1.mu v <;> simp [h]
theorem W_dListF {B : List PV → S → Prop} : W (dListF da s) B = W (da s) (fun p s1 => match asL s1.mu p with | some xs => B xs s1 | none => False) := by
  simp only [W, WI_iff]
  exact D_dListF
@[simp ↓] theorem I_dListF {B : List PV → S → Prop} : WI (dListF da s) (K := ⟨B⟩) = WI (da s) (K := ⟨(fun p s1 => match asL s1.mu p with | some xs => B xs s1 | none => False)⟩) := W_dListF
theorem D_dWhile {fuel : S → Nat} : WD (dWhile fuel ta ds s) P = WD (whileL ta ds (fuel s) s) P := rfl
theorem W_dWhile {fuel : S → Nat} : W (dWhile fuel ta ds s) P = W (whileL ta ds (fuel s) s) P := by
  simp only [W, WI_iff]
  exact D_dWhile
@[simp ↓] theorem I_dWhile {fuel : S → Nat} : WI (dWhile fuel ta ds s) (K := ⟨P⟩) = WI (whileL ta ds (fuel s) s) (K := ⟨P⟩) := W_dWhile
theorem D_runBody {d : DS} {ps : List PV} {mu : List MO} {B : PV → List MO → Prop} : WD (runBody n d ps mu) B = WD (d ⟨ps.map (fun p => some (.val p)) ++ List.replicate (n - ps.length) none, mu⟩) (fun f s => match f with | .rt v => B v s.mu | .nx => B .non s.mu | _ => False) := by
  unfold runBody
  cases d ⟨ps.map (fun p => some (.val p)) ++ List.replicate (n - ps.length) none, mu⟩ with
  | ok f t => cases f <;> rfl
  | _ => rfl
theorem W_runBody {d : DS} {ps : List PV} {mu : List MO} {B : PV → List MO → Prop} : W (runBody n d ps mu) B = W (d ⟨ps.map (fun p => some (.val p)) ++ List.replicate (n - ps.length) none, mu⟩) (fun f s => match f with | .rt v => B v s.mu | .nx => B .non s.mu | _ => False) := by
  simp only [W, WI_iff]
  exact D_runBody
theorem D_forL (I : List PV → S → Prop) {xs : List PV} (h0 : I xs s) (hs : ∀ x ys s, I (x :: ys) s → WD (tgt (tg x s) ds) (fun f s' => match f with | .nx => I ys s' | .ct => I ys s' | .bk => P .nx s' | .rt v => P (.rt v) s')) (he : ∀ s, I [] s → P .nx s) : WD (forL tg ds xs s) P := by
  induction xs generalizing s with
  | nil => exact he s h0
  | cons x ys ih =>
    have h := hs x ys s h0
    unfold forL
    rw [D_tgt] at h ⊢
    refine h.mono fun _ s1 h1 => ?_
    rw [D_bind]
    refine h1.mono fun f s2 h2 => ?_
    cases f with
    | nx => exact ih h2
    | ct => exact ih h2
    | bk => exact h2
    | rt v => exact h2
theorem W_forL (I : List PV → S → Prop) {xs : List PV} (h0 : I xs s) (hs : ∀ x ys s, I (x :: ys) s → W (tgt (tg x s) ds) (fun f s' => match f with | .nx => I ys s' | .ct => I ys s' | .bk => P .nx s' | .rt v => P (.rt v) s')) (he : ∀ s, I [] s → P .nx s) : W (forL tg ds xs s) P := by
  simp only [W, WI_iff] at hs ⊢
  exact D_forL I h0 hs he
theorem D_compL {B : List PV → S → Prop} {vs : List Nat} (I : List PV → List PV → S → Prop) {xs acc : List PV} (h0 : I xs acc s)
    (hs : ∀ x ys acc s, I (x :: ys) acc s → WD (tgt (tg x s) ta) (fun b s2 => if b = true then WD (da s2) (fun y s3 => acc.length < 16777216 ∧ I ys (acc ++ [y]) (wipeS vs s3)) else I ys acc (wipeS vs s2))) (he : ∀ acc s, I [] acc s → B acc s) : WD (compL tg ta da vs xs acc s) B := by
  induction xs generalizing s acc with
  | nil => exact he acc s h0
  | cons x ys ih =>
    have h := hs x ys acc s h0
    unfold compL
    rw [D_tgt] at h ⊢
    refine h.mono fun _ s1 h1 => ?_
    cases e : ta s1 with
    | ok b s2 =>
      rw [e] at h1
      show WD (match b with | true => _ | false => _) B
      cases b with
      | true =>
        rw [D_ok, if_pos rfl] at h1
        show WD (okB (da s2) _) B
        cases e2 : da s2 with
        | ok y s3 =>
          rw [e2] at h1
          show WD (if acc.length < 16777216 then _ else _) B
          rw [if_pos h1.1]
          exact ih h1.2
        | _ => rw [e2] at h1; exact h1.elim
      | false =>
        rw [D_ok, if_neg (by decide)] at h1
        exact ih h1
    | _ => rw [e] at h1; exact h1.elim
/-- a comprehension that maps, the state the same behind each element -/
theorem D_compMap {α : Type} {B : List PV → S → Prop} {vs : List Nat} (l : List α) (g f : α → PV) (hl : l.length ≤ 16777216) (h : ∀ a ∈ l, WD (tg (g a) s) fun _ s1 => WD (da s1) fun y s3 => y = f a ∧ wipeS vs s3 = s) (hB : B (l.map f) s) : WD (compL tg dYes da vs (l.map g) [] s) B := by
  refine D_compL (I := fun xs acc s' => s' = s ∧ ∃ l1 l2, l = l1 ++ l2 ∧ xs = l2.map g ∧ acc = l1.map f) ⟨rfl, [], l, rfl, rfl, rfl⟩ ?_ ?_
  · rintro x ys acc s' ⟨rfl, l1, l2, e1, e2, rfl⟩
    cases l2 with
    | nil => cases e2
    | cons a l2 =>
      cases e2
      have h1 := h a (by rw [e1]; simp)
      rw [D_tgt]
      refine h1.mono fun _ s1 h2 => ?_
      show WD (R.ok true s1) _
      rw [D_ok, if_pos rfl]
      refine h2.mono fun y s3 h3 => ?_
      rw [h3.1]
      refine ⟨by rw [List.length_map]; rw [e1, List.length_append, List.length_cons] at hl; omega, h3.2, l1 ++ [a], l2, by rw [e1]; simp, rfl, by simp⟩
  · rintro acc s' ⟨rfl, l1, l2, e1, e2, rfl⟩
    cases l2 with
    | nil => rw [e1, List.append_nil] at hB; exact hB
    | cons a l2 => cases e2
theorem W_compMap {α : Type} {B : List PV → S → Prop} {vs : List Nat} (l : List α) (g f : α → PV) (hl : l.length ≤ 16777216) (h : ∀ a ∈ l, W (tg (g a) s) fun _ s1 => W (da s1) fun y s3 => y = f a ∧ wipeS vs s3 = s) (hB : B (l.map f) s) : W (compL tg dYes da vs (l.map g) [] s) B := by
  simp only [W, WI_iff] at h ⊢
  exact D_compMap l g f hl h hB
end
end L3
namespace LD
open PySem L3
/-- slots: _law_one, _law_other -/
def d_w_minus : DS := (dRet (dFnS F_w_low (dCons (dBin gSub (dBin gMul (dBin fIx (dVar 0) (dC (.int 0))) (dBin fIx (dVar 1) (dC (.int 1)))) (dBin gMul (dBin fIx (dVar 1) (dC (.int 0))) (dBin fIx (dVar 0) (dC (.int 1))))) (dCons (dBin gMul (dBin fIx (dVar 0) (dC (.int 1))) (dBin fIx (dVar 1) (dC (.int 1)))) dNil))))
def F_w_minus : DF := runBody 2 d_w_minus
/-- slots: _law_one, _law_other -/
def d_w_times : DS := (dRet (dFnS F_w_low (dCons (dBin gMul (dBin fIx (dVar 0) (dC (.int 0))) (dBin fIx (dVar 1) (dC (.int 0)))) (dCons (dBin gMul (dBin fIx (dVar 0) (dC (.int 1))) (dBin fIx (dVar 1) (dC (.int 1)))) dNil))))
def F_w_times : DF := runBody 2 d_w_times
def b_w_power_1 : DS := (dSet 2 (dFnS F_w_times (dCons (dVar 2) (dCons (dVar 0) dNil))))
/-- slots: _law_one, _law_by, _law_found, _law_turn -/
def d_w_power : DS := (dSeq (dSet 2 (dTup (dCons (dC (.int 1)) (dCons (dC (.int 1)) dNil)))) (dSeq (dFor (iRange1 (dCons (dVar 1) dNil)) (gN 3) b_w_power_1) (dRet (dVar 2))))
def F_w_power : DF := runBody 4 d_w_power
/-- slots: self, other, far -/
def d_Ratio___eq__ : DS := (dSeq (dIfS (dNotT (dTru (dFnS F_is_number (dCons (dVar 1) dNil)))) (dRet (dC (.bl false))) dSkip) (dSeq (dSet 2 (dFnS F_ratio_of (dCons (dVar 1) dNil))) (dRet (dAnd (dBin (gEq false) (dUn fTop (dVar 0)) (dUn fTop (dVar 2))) (dBin (gEq false) (dUn fBot (dVar 0)) (dUn fBot (dVar 2)))))))
def F_Ratio___eq__ : DF := runBody 3 d_Ratio___eq__
/-- slots: self, other, far -/
def d_Ratio___mul__ : DS := (dSeq (dSet 2 (dFnS F_ratio_of (dCons (dVar 1) dNil))) (dRet (dFn (fMakeR okR) (dCons (dBin gMul (dUn fTop (dVar 0)) (dUn fTop (dVar 2))) (dCons (dBin gMul (dUn fBot (dVar 0)) (dUn fBot (dVar 2))) dNil)))))
def F_Ratio___mul__ : DF := runBody 3 d_Ratio___mul__
def b_power_of_1 : DS := (dSet 2 (dBin (gRL F_Ratio___mul__ gMul) (dVar 2) (dVar 0)))
/-- slots: value, order, found, turn -/
def d_power_of : DS := (dSeq (dSet 2 (dFn (fMakeR okR) (dCons (dC (.int 1)) dNil))) (dSeq (dFor (iRange1 (dCons (dVar 1) dNil)) (gN 3) b_power_of_1) (dRet (dVar 2))))
def F_power_of : DF := runBody 4 d_power_of
/-- slots: value, least, most -/
def d_need_amount : DS := (dIfS (dOrT (dNotT (dTru (dFnS F_is_integer (dCons (dVar 0) dNil)))) (dOrT (dTru (dBin gLt (dVar 0) (dVar 1))) (dAndT (dTru (dBin (fIsN true) (dVar 2) (dC .non))) (dTru (dBin gGt (dVar 0) (dVar 2)))))) (dRaise "BadAmount" "value" (dVar 0)) dSkip)
def F_need_amount : DF := runBody 3 d_need_amount
end LD
namespace LD
open PySem L3
end LD
namespace LD
open PySem L3
end LD
namespace LD
open PySem L3
end LD
namespace LD
open PySem L3
/-- slots: self, other, far -/
def d_Ratio___add__ : DS := (dSeq (dSet 2 (dFnS F_ratio_of (dCons (dVar 1) dNil))) (dRet (dFn (fMakeR okR) (dCons (dBin gAdd (dBin gMul (dUn fTop (dVar 0)) (dUn fBot (dVar 2))) (dBin gMul (dUn fTop (dVar 2)) (dUn fBot (dVar 0)))) (dCons (dBin gMul (dUn fBot (dVar 0)) (dUn fBot (dVar 2))) dNil)))))
def F_Ratio___add__ : DF := runBody 3 d_Ratio___add__
end LD
namespace LD
open PySem L3
end LD
namespace LD
open PySem L3
end LD
set_option maxHeartbeats 2000000
namespace L3
open PySem PySem.Spec PyProof.Rows L2
def IsQ : Bool → Heap → Addr → Array Value → Prop
  | true, h, l, xs => h.IsTuple l xs
  | false, h, l, xs => h.IsList l xs
def IsQi : Bool → Heap → Addr → Addr → Nat → Prop
  | true, h, it, l, k => h.IsTupleIter it l k
  | false, h, it, l, k => h.IsListIter it l k
theorem IsQ.up {t : Bool} {h h' : Heap} {l : Addr} {xs : Array Value} (x : IsQ t h l xs) (e : ∀ o, h.get? l = some o → h'.get? l = some o) : IsQ t h' l xs := by
  cases t with
  | true => exact Heap.IsTuple.at x e
  | false => exact Heap.IsList.at x e
theorem IsQi.up {t : Bool} {h h' : Heap} {it l : Addr} {k : Nat} (x : IsQi t h it l k) (e : ∀ o, h.get? it = some o → h'.get? it = some o) : IsQi t h' it l k := by
  cases t with
  | true => exact Heap.IsTupleIter.at x e
  | false => exact Heap.IsListIter.at x e
theorem IsQi.obj {t : Bool} {h : Heap} {it l : Addr} {k : Nat} (x : IsQi t h it l k) : ∃ o, h.get? it = some o ∧ ∀ v, o.data ≠ .cell v := by
  cases t with
  | true =>
    obtain ⟨o, e, _, d⟩ := x
    exact ⟨o, e, fun v q => by rw [d] at q; cases q⟩
  | false =>
    obtain ⟨o, e, _, d⟩ := x
    exact ⟨o, e, fun v q => by rw [d] at q; cases q⟩
theorem IsQ.obj {t : Bool} {h : Heap} {l : Addr} {xs : Array Value} (x : IsQ t h l xs) : ∃ o, h.get? l = some o := by
  cases t with
  | true => exact ⟨_, x.choose_spec.1⟩
  | false => exact ⟨_, x.choose_spec.1⟩
section
variable {prog : Program} {w : World} {A : Around} {E : Value → Shared → Prop} {s : Shared} {t1 t2 : Bool} {z P O j1 j2 l1 l2 : Addr} {k1 k2 : Nat} {xs ys : Array Value} {x y p q : Value}
theorem nextQ {t : Bool} {it l : Addr} {k : Nat} {xs : Array Value} {x : Value} {Q : Value → Shared → Prop} (a : IsQi t s.heap it l k) (b : IsQ t s.heap l xs) (hx : xs[k]? = some x)
    (h : ∀ g, IsQi t g it l (k + 1) → Heap.SameBut it s.heap g → Q x { s with heap := g }) : wpAny (model prog w) A (Builtin.SmallTypes.nextOf (.ref it)) Q E s := by
  cases t with
  | true => exact RZ.nextOf_tuple_item a b hx h
  | false => exact wpAny_nextOf_list_item a b hx h
theorem endQ {t : Bool} {it l : Addr} {k : Nat} {xs : Array Value} {Q : Value → Shared → Prop} (hh : A.handled = none) (a : IsQi t s.heap it l k) (b : IsQ t s.heap l xs) (hx : xs[k]? = none)
    (h : ∀ g e, Heap.ExtBut it s.heap g → (∃ o, g.get? e = some o ∧ o.cls = .type "StopIteration") → E (.ref e) { s with heap := g }) : wpAny (model prog w) A (Builtin.SmallTypes.nextOf (.ref it)) Q E s := by
  cases t with
  | true => exact RZ.nextOf_tuple_end hh a b hx h
  | false => exact wpAny_nextOf_list_end hh a b hx h
/-- one turn -/
theorem zipQ_item {Q : Value → Shared → Prop} (D : ZipApart z P O j1 j2 l1 l2) (hz : IsZip s.heap z P O .none) (hP : IsPair s.heap P (.ref j1) (.ref j2)) (hO : IsPair s.heap O p q)
    (a1 : IsQi t1 s.heap j1 l1 k1) (a2 : IsQi t2 s.heap j2 l2 k2) (b1 : IsQ t1 s.heap l1 xs) (b2 : IsQ t2 s.heap l2 ys) (hx : xs[k1]? = some x) (hy : ys[k2]? = some y)
    (hQ : ∀ g, IsZip g z P O (rawInt s.heap.objs.size) → IsPair g O x y → IsQi t1 g j1 l1 (k1 + 1) → IsQi t2 g j2 l2 (k2 + 1) → IsPair g s.heap.objs.size x y → g.objs.size = s.heap.objs.size + 1 →
      (∀ c o, c ≠ z → c ≠ O → c ≠ j1 → c ≠ j2 → s.heap.get? c = some o → g.get? c = some o) → Q (.ref s.heap.objs.size) { s with heap := g }) :
    wpAny (model prog w) A (Builtin.«zip.__next__» ⟨[.ref z], []⟩) (fun fin s' => ∃ v, fin = .done (.ret v) ∧ Q v s') E s := by
  have see : ∀ {r : Unit → Sem Fin} {R : Fin → Shared → Prop}, True := fun {_ _} => trivial
  show wpAny (model prog w) A (field (.ref z) 2 >>= _) _ _ s
  refine wpAny_bind (wpAny_field (s := s) hz rfl (x := .bool false) rfl ?_)
  show wpAny (model prog w) A (field (.ref z) 3 >>= _) _ _ s
  refine wpAny_bind (wpAny_field (s := s) hz rfl (x := .ref P) rfl ?_)
  refine wpAny_bind (wpAny_seqItems (s := s) hP rfl ?_)
  show wpAny (model prog w) A (Builtin.SmallTypes.ownedTupleIsFree (.ref z) >>= _) _ _ s
  unfold Builtin.SmallTypes.ownedTupleIsFree
  refine wpAny_bind (wpAny_bind (wpAny_field (s := s) hz rfl (x := .none) rfl (wpAny_pure ?_)))
  simp only [if_true]
  refine wpAny_bind (wpAny_rule (wpAny_bind (wpAny_field (s := s) hz rfl (x := .ref O) rfl ?_)))
  refine wpAny_bind (wpAny_setField_rec hz (by simp) fun g1 hz1 s1 => ?_)
  replace hz1 : IsZip g1 z P O .ellipsis := hz1
  have e1 := s1.extBut
  simp only [List.zipIdx_cons, List.zipIdx_nil, List.forIn_cons, List.forIn_nil]
  refine wpAny_bind (wpAny_bind (wpAny_bind (wpAny_onRaise ?_)))
  show wpAny (model prog w) A (Builtin.SmallTypes.nextOf (.ref j1) >>= _) _ _ _
  refine wpAny_bind (nextQ (a1.up fun o => e1 _ o D.i1z) (b1.up fun o => e1 _ o D.l1z) hx fun g2 a1' s2 => wpAny_pure ?_)
  have e2 := s2.extBut
  have hO2 : IsPair g2 O p q := e2 _ _ D.TOi1 (e1 _ _ D.TOz hO)
  refine wpAny_bind (wpAny_seqItems hO2 rfl (wpAny_bind (wpAny_updateSeq_pair hO2 fun g3 hO3 s3 => ?_)))
  replace hO3 : IsPair g3 O x q := hO3
  have e3 := s3.extBut
  refine wpAny_bind (wpAny_letGo (wpAny_pure (wpAny_bind (wpAny_bind (wpAny_onRaise ?_)))))
  show wpAny (model prog w) A (Builtin.SmallTypes.nextOf (.ref j2) >>= _) _ _ _
  refine wpAny_bind (nextQ (((a2.up fun o => e1 _ o D.i2z).up fun o => e2 _ o D.i12.symm).up fun o => e3 _ o D.TOi2.symm)
    (((b2.up fun o => e1 _ o D.l2z).up fun o => e2 _ o D.l2i1).up fun o => e3 _ o D.l2TO) hy fun g4 a2' s4 => wpAny_pure ?_)
  have e4 := s4.extBut
  have hO4 : IsPair g4 O x q := e4 _ _ D.TOi2 hO3
  refine wpAny_bind (wpAny_seqItems hO4 rfl (wpAny_bind (wpAny_updateSeq_pair hO4 fun g5 hO5 s5 => ?_)))
  replace hO5 : IsPair g5 O x y := hO5
  have e5 := s5.extBut
  refine wpAny_bind (wpAny_letGo (wpAny_pure (wpAny_pure (wpAny_bind (wpAny_seqItems hO5 rfl (wpAny_bind (wpAny_newTuple ?_)))))))
  have n5 : g5.objs.size = s.heap.objs.size := by rw [s5.1, s4.1, s3.1, s2.1, s1.1]
  have hz5 : IsZip g5 z P O .ellipsis := e5 _ _ D.TOz.symm (e4 _ _ D.i2z.symm (e3 _ _ D.TOz.symm (e2 _ _ D.i1z.symm hz1)))
  have k5 : ∀ c o, c ≠ z → c ≠ O → c ≠ j1 → c ≠ j2 → s.heap.get? c = some o → g5.get? c = some o := fun c o c1 c2 c3 c4 e => e5 _ _ c2 (e4 _ _ c4 (e3 _ _ c2 (e2 _ _ c3 (e1 _ _ c1 e))))
  have a15 : IsQi t1 g5 j1 l1 (k1 + 1) := ((a1'.up fun o => e3 _ o D.TOi1.symm).up fun o => e4 _ o D.i12).up fun o => e5 _ o D.TOi1.symm
  have a25 : IsQi t2 g5 j2 l2 (k2 + 1) := a2'.up fun o => e5 _ o D.TOi2.symm
  have zlt : z < g5.objs.size := Heap.lt_size hz5
  show wpAny (model prog w) A (Builtin.SmallTypes.ownedTupleHandOut (.ref z) (.ref g5.objs.size) >>= _) _ _ _
  unfold Builtin.SmallTypes.ownedTupleHandOut
  have hz6 : IsZip (g5.push { cls := .type "tuple", data := .seq #[x, y] }) z P O .ellipsis := Heap.get?_push_of_some _ hz5
  refine wpAny_bind (wpAny_bind (wpAny_setField_rec hz6 (by simp) fun g7 hz7 s7 => ?_))
  replace hz7 : IsZip g7 z P O (rawInt g5.objs.size) := hz7
  refine wpAny_setField_rec hz7 (by simp) fun g8 hz8 s8 => ?_
  replace hz8 : IsZip g8 z P O (rawInt g5.objs.size) := hz8
  have up : ∀ c o, c ≠ z → g5.get? c = some o → g8.get? c = some o := fun c o c1 e => s8.extBut _ _ c1 (s7.extBut _ _ c1 (Heap.get?_push_of_some _ e))
  have hT : IsPair g8 g5.objs.size x y := s8.extBut _ _ (Nat.ne_of_gt zlt) (s7.extBut _ _ (Nat.ne_of_gt zlt) (Heap.get?_push_size _ rfl))
  have n8 : g8.objs.size = g5.objs.size + 1 := by rw [s8.1, s7.1, Heap.size_push]
  rw [n5] at hz8 hT n8
  refine wpAny_pure ⟨_, rfl, ?_⟩
  show Q (.ref g5.objs.size) _
  rw [n5]
  exact hQ g8 hz8 (up _ _ D.TOz hO5) (a15.up fun o => up _ o D.i1z) (a25.up fun o => up _ o D.i2z) hT n8 fun c o c1 c2 c3 c4 e => up c o c1 (k5 c o c1 c2 c3 c4 e)
/-- the last turn -/
theorem zipQ_end {Q : Fin → Shared → Prop} (hh : A.handled = none) (D : ZipApart z P O j1 j2 l1 l2) (hz : IsZip s.heap z P O .none) (hP : IsPair s.heap P (.ref j1) (.ref j2)) (hO : IsPair s.heap O p q)
    (a1 : IsQi t1 s.heap j1 l1 k1) (a2 : IsQi t2 s.heap j2 l2 k2) (b1 : IsQ t1 s.heap l1 xs) (b2 : IsQ t2 s.heap l2 ys) (hend : xs[k1]? = none ∨ ys[k2]? = none)
    (hE : ∀ g e, (∀ c o, c ≠ z → c ≠ O → c ≠ j1 → c ≠ j2 → s.heap.get? c = some o → g.get? c = some o) → (∃ o, g.get? e = some o ∧ o.cls = .type "StopIteration") → E (.ref e) { s with heap := g }) :
    wpAny (model prog w) A (Builtin.«zip.__next__» ⟨[.ref z], []⟩) Q E s := by
  show wpAny (model prog w) A (field (.ref z) 2 >>= _) _ _ s
  refine wpAny_bind (wpAny_field (s := s) hz rfl (x := .bool false) rfl ?_)
  show wpAny (model prog w) A (field (.ref z) 3 >>= _) _ _ s
  refine wpAny_bind (wpAny_field (s := s) hz rfl (x := .ref P) rfl ?_)
  refine wpAny_bind (wpAny_seqItems (s := s) hP rfl ?_)
  show wpAny (model prog w) A (Builtin.SmallTypes.ownedTupleIsFree (.ref z) >>= _) _ _ s
  unfold Builtin.SmallTypes.ownedTupleIsFree
  refine wpAny_bind (wpAny_bind (wpAny_field (s := s) hz rfl (x := .none) rfl (wpAny_pure ?_)))
  simp only [if_true]
  refine wpAny_bind (wpAny_rule (wpAny_bind (wpAny_field (s := s) hz rfl (x := .ref O) rfl ?_)))
  refine wpAny_bind (wpAny_setField_rec hz (by simp) fun g1 hz1 s1 => ?_)
  replace hz1 : IsZip g1 z P O .ellipsis := hz1
  have e1 := s1.extBut
  simp only [List.zipIdx_cons, List.zipIdx_nil, List.forIn_cons, List.forIn_nil]
  refine wpAny_bind (wpAny_bind (wpAny_bind (wpAny_onRaise ?_)))
  show wpAny (model prog w) A (Builtin.SmallTypes.nextOf (.ref j1) >>= _) _ _ _
  have fin : ∀ {g : Heap} {e : Addr}, (∀ c o, c ≠ z → c ≠ O → c ≠ j1 → c ≠ j2 → s.heap.get? c = some o → g.get? c = some o) → (∃ o, g.get? e = some o ∧ o.cls = .type "StopIteration") → (hz' : IsZip g z P O .ellipsis) →
      wpAny (model prog w) A (setField (.ref z) 0 .none) (fun _ s' => E (.ref e) s') E { s with heap := g } := fun {g e} k he hz' => by
    obtain ⟨oe, he, hc⟩ := he
    have ez : e ≠ z := fun r => by subst r; rw [hz'] at he; cases he; simp at hc
    exact wpAny_setField_rec hz' (by simp) fun g' _ s' => hE g' e (fun c o c1 c2 c3 c4 r => s'.extBut _ _ c1 (k c o c1 c2 c3 c4 r)) ⟨oe, s'.extBut _ _ ez he, hc⟩
  cases hx : xs[k1]? with
  | none =>
    exact wpAny_bind (endQ hh (a1.up fun o => e1 _ o D.i1z) (b1.up fun o => e1 _ o D.l1z) hx fun g2 e s2 he => fin (fun c o c1 _ c3 _ r => s2 _ _ c3 (e1 _ _ c1 r)) he (s2 _ _ D.i1z.symm hz1))
  | some x =>
    have hy : ys[k2]? = none := by
      rcases hend with h | h
      · rw [hx] at h; cases h
      · exact h
    refine wpAny_bind (nextQ (a1.up fun o => e1 _ o D.i1z) (b1.up fun o => e1 _ o D.l1z) hx fun g2 a1' s2 => wpAny_pure ?_)
    have e2 := s2.extBut
    have hO2 : IsPair g2 O p q := e2 _ _ D.TOi1 (e1 _ _ D.TOz hO)
    refine wpAny_bind (wpAny_seqItems hO2 rfl (wpAny_bind (wpAny_updateSeq_pair hO2 fun g3 hO3 s3 => ?_)))
    have e3 := s3.extBut
    refine wpAny_bind (wpAny_letGo (wpAny_pure (wpAny_bind (wpAny_bind (wpAny_onRaise ?_)))))
    show wpAny (model prog w) A (Builtin.SmallTypes.nextOf (.ref j2) >>= _) _ _ _
    exact wpAny_bind (endQ hh (((a2.up fun o => e1 _ o D.i2z).up fun o => e2 _ o D.i12.symm).up fun o => e3 _ o D.TOi2.symm)
      (((b2.up fun o => e1 _ o D.l2z).up fun o => e2 _ o D.l2i1).up fun o => e3 _ o D.l2TO) hy fun g4 e s4 he => fin (fun c o c1 c2 c3 c4 r => s4 _ _ c4 (e3 _ _ c2 (e2 _ _ c3 (e1 _ _ c1 r)))) he (s4 _ _ D.i2z.symm (e3 _ _ D.TOz.symm (e2 _ _ D.i1z.symm hz1))))
end
end L3
set_option maxHeartbeats 2000000
namespace L3
open PySem PySem.Spec PyProof.Rows L2
abbrev itQ (t : Bool) (l : Addr) : Obj := { cls := .type (match t with | true => "tuple_iterator" | false => "list_iterator"), data := .fields #[.ref l, .int 0 0] }
abbrev zq1 (h : Heap) (t : Bool) (l1 : Addr) : Heap := h.push (itQ t l1)
abbrev zq2 (h : Heap) (t u : Bool) (l1 l2 : Addr) : Heap := (zq1 h t l1).push (itQ u l2)
abbrev zq3 (h : Heap) (t u : Bool) (l1 l2 : Addr) : Heap := (zq2 h t u l1 l2).push { cls := .type "tuple", data := .seq #[.ref h.objs.size, .ref (zq1 h t l1).objs.size] }
abbrev zq4 (h : Heap) (t u : Bool) (l1 l2 : Addr) : Heap := (zq3 h t u l1 l2).push { cls := .type "tuple", data := .seq #[.none, .none] }
abbrev zq5 (h : Heap) (t u : Bool) (l1 l2 : Addr) : Heap := (zq4 h t u l1 l2).push { cls := .type "zip", data := .fields #[.none, .bool false, .bool false, .ref (zq2 h t u l1 l2).objs.size, .ref (zq3 h t u l1 l2).objs.size] }
theorem meets_zipQ (t u : Bool) (l1 l2 : Addr) (xs ys : Array Value) :
    Meets (Builtin.«zip.__new__» ⟨[.type "zip", .ref l1, .ref l2], []⟩) (fun _ R s => IsQ t s.heap l1 xs ∧ IsQ u s.heap l2 ys ∧ R (.ok (.ret (.ref (zq4 s.heap t u l1 l2).objs.size))) { s with heap := zq5 s.heap t u l1 l2 }) := by
  cases t <;> cases u
  · exact .of_wp fun prog w A R s h => by
      obtain ⟨hp, g, d, tk, os⟩ := s
      obtain ⟨a, b, h⟩ := h
      have hsub := sub_zip
      have A1 : Heap.IsList (Shared.heap ⟨hp, g, d, tk, os⟩) l1 xs := a
      have A2 : Heap.IsList (Shared.heap ⟨hp.push (itQ false l1), g, d, tk, os⟩) l2 ys := Heap.IsList.push b _
      wp_walk using wpAny_pyIter_list A1, wpAny_pyIter_list A2
      exact ⟨_, rfl, h⟩
  · exact .of_wp fun prog w A R s h => by
      obtain ⟨hp, g, d, tk, os⟩ := s
      obtain ⟨a, b, h⟩ := h
      have hsub := sub_zip
      have A1 : Heap.IsList (Shared.heap ⟨hp, g, d, tk, os⟩) l1 xs := a
      have A2 : Heap.IsTuple (Shared.heap ⟨hp.push (itQ false l1), g, d, tk, os⟩) l2 ys := Heap.IsTuple.push b _
      wp_walk using wpAny_pyIter_list A1, wpAny_pyIter_tuple A2
      exact ⟨_, rfl, h⟩
  · exact .of_wp fun prog w A R s h => by
      obtain ⟨hp, g, d, tk, os⟩ := s
      obtain ⟨a, b, h⟩ := h
      have hsub := sub_zip
      have A1 : Heap.IsTuple (Shared.heap ⟨hp, g, d, tk, os⟩) l1 xs := a
      have A2 : Heap.IsList (Shared.heap ⟨hp.push (itQ true l1), g, d, tk, os⟩) l2 ys := Heap.IsList.push b _
      wp_walk using wpAny_pyIter_tuple A1, wpAny_pyIter_list A2
      exact ⟨_, rfl, h⟩
  · exact .of_wp fun prog w A R s h => by
      obtain ⟨hp, g, d, tk, os⟩ := s
      obtain ⟨a, b, h⟩ := h
      have hsub := sub_zip
      have A1 : Heap.IsTuple (Shared.heap ⟨hp, g, d, tk, os⟩) l1 xs := a
      have A2 : Heap.IsTuple (Shared.heap ⟨hp.push (itQ true l1), g, d, tk, os⟩) l2 ys := Heap.IsTuple.push b _
      wp_walk using wpAny_pyIter_tuple A1, wpAny_pyIter_tuple A2
      exact ⟨_, rfl, h⟩
theorem itQ_is {t : Bool} {h : Heap} {it l : Addr} (e : h.get? it = some (itQ t l)) : IsQi t h it l 0 := by
  cases t with
  | true => exact ⟨_, e, rfl, rfl⟩
  | false => exact ⟨_, e, rfl, rfl⟩
section
variable {prog : Program} {w : World} {A : Around} {E : Value → Shared → Prop} {s : Shared}
theorem call_zipQ {t u : Bool} {l1 l2 : Addr} {xs ys : Array Value} {Q : Value → Shared → Prop} (a : IsQ t s.heap l1 xs) (b : IsQ u s.heap l2 ys)
    (h : ∀ g, IsZip g (s.heap.objs.size + 4) (s.heap.objs.size + 2) (s.heap.objs.size + 3) .none → IsPair g (s.heap.objs.size + 2) (.ref s.heap.objs.size) (.ref (s.heap.objs.size + 1)) →
      IsPair g (s.heap.objs.size + 3) .none .none → IsQi t g s.heap.objs.size l1 0 → IsQi u g (s.heap.objs.size + 1) l2 0 → (∀ c o, s.heap.get? c = some o → g.get? c = some o) → Q (.ref (s.heap.objs.size + 4)) { s with heap := g }) :
    wpAny (model prog w) A (call (.type "zip") [.ref l1, .ref l2]) Q E s := by
  refine callType_new F.called_zip (by decide) (F.typeCall_zip_2 _ _) (F.newCall_zip_2 _ _) (fun obj => F.args_object_init_3 obj _ _) F.entry_zip_new (meets_zipQ t u l1 l2 xs ys) ⟨a, b, ?_⟩
  have n1 : (zq1 s.heap t l1).objs.size = s.heap.objs.size + 1 := Heap.size_push ..
  have n2 : (zq2 s.heap t u l1 l2).objs.size = s.heap.objs.size + 2 := by rw [Heap.size_push, n1]
  have n3 : (zq3 s.heap t u l1 l2).objs.size = s.heap.objs.size + 3 := by rw [Heap.size_push, n2]
  have n4 : (zq4 s.heap t u l1 l2).objs.size = s.heap.objs.size + 4 := by rw [Heap.size_push, n3]
  have up : ∀ {h : Heap} {c : Addr} {o v : Obj}, h.get? c = some o → (h.push v).get? c = some o := fun e => Heap.get?_push_of_some _ e
  have g5 : (zq5 s.heap t u l1 l2).get? (zq4 s.heap t u l1 l2).objs.size = some _ := Heap.get?_push_size _ rfl
  have g4 : (zq5 s.heap t u l1 l2).get? (zq3 s.heap t u l1 l2).objs.size = some _ := up (Heap.get?_push_size _ rfl)
  have g3 : (zq5 s.heap t u l1 l2).get? (zq2 s.heap t u l1 l2).objs.size = some _ := up (up (Heap.get?_push_size _ rfl))
  have g2 : (zq5 s.heap t u l1 l2).get? (zq1 s.heap t l1).objs.size = some (itQ u l2) := up (up (up (Heap.get?_push_size _ rfl)))
  have g1 : (zq5 s.heap t u l1 l2).get? s.heap.objs.size = some (itQ t l1) := up (up (up (up (Heap.get?_push_size _ rfl))))
  show _ ∧ _
  rw [n2, n3, n4] at g5
  rw [n1, n2] at g3
  rw [n3] at g4
  rw [n1] at g2
  rw [n4]
  exact ⟨⟨_, g5, rfl⟩, h _ g5 g3 g4 (itQ_is g1) (itQ_is g2) fun c o r => up (up (up (up (up r))))⟩
theorem pyNext_zipQ {t u : Bool} {z P O j1 j2 l1 l2 : Addr} {k1 k2 : Nat} {xs ys : Array Value} {x y p q : Value} {Q : Option Value → Shared → Prop} (D : ZipApart z P O j1 j2 l1 l2) (hz : IsZip s.heap z P O .none) (hP : IsPair s.heap P (.ref j1) (.ref j2)) (hO : IsPair s.heap O p q)
    (a1 : IsQi t s.heap j1 l1 k1) (a2 : IsQi u s.heap j2 l2 k2) (b1 : IsQ t s.heap l1 xs) (b2 : IsQ u s.heap l2 ys) (hx : xs[k1]? = some x) (hy : ys[k2]? = some y)
    (hQ : ∀ g, IsZip g z P O (rawInt s.heap.objs.size) → IsPair g O x y → IsQi t g j1 l1 (k1 + 1) → IsQi u g j2 l2 (k2 + 1) → IsPair g s.heap.objs.size x y → g.objs.size = s.heap.objs.size + 1 →
      (∀ c o, c ≠ z → c ≠ O → c ≠ j1 → c ≠ j2 → s.heap.get? c = some o → g.get? c = some o) → Q (some (.ref s.heap.objs.size)) { s with heap := g }) : wpAny (model prog w) A (pyNext (.ref z)) Q E s := by
  have T : s.TypeIs (.ref z) "zip" := ⟨_, hz, rfl⟩
  unfold pyNext
  exact wpAny_bind (wpAny_attempt (wpAny_callSpecial?_slot (name := Str.ofString "__next__") T F.slot_zip_next (wpAny_call_entry F.slot_zip_next T F.entry_zip_next
    (zipQ_item D hz hP hO a1 a2 b1 b2 hx hy fun g r1 r2 r3 r4 r5 r6 r7 => wpAny_pure (hQ g r1 r2 r3 r4 r5 r6 r7)) (F.args_zip_next_1 _))))
theorem pyNext_zipQe {t u : Bool} {z P O j1 j2 l1 l2 : Addr} {k1 k2 : Nat} {xs ys : Array Value} {p q : Value} {Q : Option Value → Shared → Prop} (hh : A.handled = none) (D : ZipApart z P O j1 j2 l1 l2) (hz : IsZip s.heap z P O .none) (hP : IsPair s.heap P (.ref j1) (.ref j2)) (hO : IsPair s.heap O p q)
    (a1 : IsQi t s.heap j1 l1 k1) (a2 : IsQi u s.heap j2 l2 k2) (b1 : IsQ t s.heap l1 xs) (b2 : IsQ u s.heap l2 ys) (hend : xs[k1]? = none ∨ ys[k2]? = none)
    (hQ : ∀ g, (∀ c o, c ≠ z → c ≠ O → c ≠ j1 → c ≠ j2 → s.heap.get? c = some o → g.get? c = some o) → Q none { s with heap := g }) : wpAny (model prog w) A (pyNext (.ref z)) Q E s := by
  have T : s.TypeIs (.ref z) "zip" := ⟨_, hz, rfl⟩
  unfold pyNext
  refine wpAny_bind (wpAny_attempt (wpAny_callSpecial?_slot (name := Str.ofString "__next__") T F.slot_zip_next (wpAny_call_entry F.slot_zip_next T F.entry_zip_next
    (zipQ_end hh D hz hP hO a1 a2 b1 b2 hend fun g e k he => ?_) (F.args_zip_next_1 _))))
  obtain ⟨o, he, hc⟩ := he
  exact wpAny_bind (wpAny_isInstance (T := "StopIteration") (b := true) ⟨o, he, hc⟩ isSubtype_stop (wpAny_pure (hQ _ k)))
end
/-- the sequence at a, by its kind -/
def SqQ (K : PySem.W.Frag) : Bool → Hp → Addr → List V → Prop
  | true, H, a, xs => SqT K H a xs
  | false, H, a, xs => SqL K H a xs
section
variable {X : Cx} {pins : List (Addr × Obj)} {σ : St} {H : Hp} {s : Shared} {t : Bool} {a : Addr} {xs ys : List V}
theorem seqQ (I : Inv X pins σ H s) (h : SqQ X.K t H a xs) : ∃ its : List Value, Vals xs its ∧ IsQ t s.heap a its.toArray := by
  cases t with
  | true =>
    obtain ⟨its, r, p, _⟩ := I.tuple h
    exact ⟨its, r, p⟩
  | false =>
    obtain ⟨its, r, p, _⟩ := I.list h
    exact ⟨its, r, p.isList⟩
theorem seqQ_inj (I : Inv X pins σ H s) (h : SqQ X.K t H a xs) (h' : SqQ X.K t H a ys) : xs = ys := by
  cases t with
  | true => exact I.tuple_inj h h'
  | false => exact I.list_inj h h'
end
end L3
set_option maxHeartbeats 2000000
namespace L3
open PySem PySem.Spec PyProof.Rows L2
def ItzQ (K : PySem.W.Frag) (t u : Bool) (a b : Addr) : It :=
  ⟨fun i H => ∃ (xs ys : List V) (x y : V), SqQ K t H a xs ∧ SqQ K u H b ys ∧ xs[i]? = some x ∧ ys[i]? = some y,
    fun i H v H' => ∃ T x y, v = .ref T ∧ H T = none ∧ H' = upd H T (.tup [x, y]) ∧ (∀ xs, SqQ K t H a xs → xs[i]? = some x) ∧ ∀ ys, SqQ K u H b ys → ys[i]? = some y,
    fun i H => ∃ xs ys : List V, SqQ K t H a xs ∧ SqQ K u H b ys ∧ (xs.length ≤ i ∨ ys.length ≤ i)⟩
theorem five {c z P O j1 j2 : Addr} (h : c ∈ [z, P, O, j1, j2]) : c = z ∨ c = P ∨ c = O ∨ c = j1 ∨ c = j2 := by simpa using h
theorem turn_zipQ {P : Program} {w : World} {K : PySem.W.Frag} {elts : List Expr} {kk : Nat} {tpos : Pos} {t u : Bool} {a b z PI O j1 j2 : Addr} (D : ZipApart z PI O j1 j2 a b) :
    Turn P w K (.Tuple elts kk tpos) (ItzQ K t u a b) [z, PI, O, j1, j2] z (fun i h => IsZip h z PI O .none ∧ IsPair h PI (.ref j1) (.ref j2) ∧ (∃ x y, IsPair h O x y) ∧ IsQi t h j1 a i ∧ IsQi u h j2 b i) where
  mem := by simp
  obj := fun i h st c hc => by
    obtain ⟨hz, hP, ⟨x, y, hO⟩, h1, h2⟩ := st
    rcases five hc with r | r | r | r | r
    · subst r; exact ⟨_, hz, fun v e => nomatch e⟩
    · subst r; exact ⟨_, hP, fun v e => nomatch e⟩
    · subst r; exact ⟨_, hO, fun v e => nomatch e⟩
    · subst r; exact h1.obj
    · subst r; exact h2.obj
  keep := fun i h h' st k => by
    obtain ⟨hz, hP, ⟨x, y, hO⟩, h1, h2⟩ := st
    exact ⟨k z (by simp) _ hz, k PI (by simp) _ hP, ⟨x, y, k O (by simp) _ hO⟩, h1.up fun o e => k j1 (by simp) o e, h2.up fun o e => k j2 (by simp) o e⟩
  item := by
    intro X eP ew eK hc i pins s σ H E I hf st hg
    subst eP ew eK
    obtain ⟨hz, hP, ⟨x0, y0, hO⟩, h1, h2⟩ := st
    obtain ⟨xs, ys, x, y, qx, qy, ex, ey⟩ := hg
    obtain ⟨us, rv, p1⟩ := seqQ I qx
    obtain ⟨vs, rv2, p2⟩ := seqQ I qy
    obtain ⟨u1, hu, ru⟩ := rv.get ex
    obtain ⟨u2, hu2, ru2⟩ := rv2.get ey
    have zl : z < s.heap.objs.size := Heap.lt_size hz
    refine pyNext_zipQ D hz hP hO h1 h2 p1 p2 (x := u1) (y := u2) (by simpa using hu) (by simpa using hu2) fun g hz' hO' h1' h2' hT n1 hk => ?_
    refine ⟨_, rfl, wpAny_letOwnedTupleGo_zip (s := { s with heap := g }) hz' fun g2 hz2 sb => ?_⟩
    have hT2 : g2.get? s.heap.objs.size = some { cls := .type "tuple", data := .seq #[u1, u2] } := (sb.2 _ (Nat.ne_of_gt zl)).trans hT
    have new : ObjOk X.prog X.w (upd H s.heap.objs.size (.tup [x, y])) g2 s.heap.objs.size (.tup [x, y]) := ⟨by show 2 ≤ sizeLine; decide, [u1, u2], .cons ru (.cons ru2 .nil), ⟨_, hT2, rfl, _, rfl⟩⟩
    have nin : ∀ {c : Addr}, c ∉ [z, PI, O, j1, j2] → c ≠ z ∧ c ≠ O ∧ c ≠ j1 ∧ c ≠ j2 := fun {c} h => ⟨fun r => h (by simp [r]), fun r => h (by simp [r]), fun r => h (by simp [r]), fun r => h (by simp [r])⟩
    have J : Inv X pins σ (upd H s.heap.objs.size (.tup [x, y])) { s with heap := g2 } :=
      I.turnedNew (t' := s.toks) (ch := [z, PI, O, j1, j2]) (fun c o hb e => (sb.2 c (nin hb).1).trans (hk c o (nin hb).1 (nin hb).2.1 (nin hb).2.2.1 (nin hb).2.2.2 e)) hf (Nat.le_refl _) new
    refine ⟨.ref s.heap.objs.size, _, J, rfl, ⟨_, x, y, rfl, I.hok.fresh (Nat.le_refl _), rfl, fun l hl => by rw [seqQ_inj I hl qx]; exact ex, fun l hl => by rw [seqQ_inj I hl qy]; exact ey⟩, ⟨hz2, (sb.2 _ D.TIz).trans (hk _ _ D.TIz D.TITO D.TIi1 D.TIi2 hP), ⟨u1, u2, (sb.2 _ D.TOz).trans hO'⟩,
      h1'.up fun o e => (sb.2 _ D.i1z).trans e, h2'.up fun o e => (sb.2 _ D.i2z).trans e⟩, fun c hcm => ?_⟩
    have lt : c < s.heap.objs.size := by
      rcases five hcm with r | r | r | r | r
      · rw [r]; exact zl
      · rw [r]; exact Heap.lt_size hP
      · rw [r]; exact Heap.lt_size hO
      · rw [r]; obtain ⟨o, e, _⟩ := h1.obj; exact Heap.lt_size e
      · rw [r]; obtain ⟨o, e, _⟩ := h2.obj; exact Heap.lt_size e
    rw [upd_ne (Nat.ne_of_lt lt)]
    exact (hf c hcm).1
  done := by
    intro X eP ew eK hc i pins s σ H E I hf st hg
    subst eP ew eK
    obtain ⟨hz, hP, ⟨x0, y0, hO⟩, h1, h2⟩ := st
    obtain ⟨xs, ys, qx, qy, hend⟩ := hg
    obtain ⟨us, rv, p1⟩ := seqQ I qx
    obtain ⟨vs, rv2, p2⟩ := seqQ I qy
    have n1 := rv.length
    have n2 := rv2.length
    have he : us.toArray[i]? = none ∨ vs.toArray[i]? = none := by
      rcases hend with e | e
      · exact .inl (by simp; omega)
      · exact .inr (by simp; omega)
    have nin : ∀ {c : Addr}, c ∉ [z, PI, O, j1, j2] → c ≠ z ∧ c ≠ O ∧ c ≠ j1 ∧ c ≠ j2 := fun {c} h => ⟨fun r => h (by simp [r]), fun r => h (by simp [r]), fun r => h (by simp [r]), fun r => h (by simp [r])⟩
    exact pyNext_zipQe (I.ok.hd hc) D hz hP hO h1 h2 p1 p2 he fun g hk => ⟨rfl, I.turnedL (t' := s.toks) (ch := [z, PI, O, j1, j2]) (fun c o hb e => hk c o (nin hb).1 (nin hb).2.1 (nin hb).2.2.1 (nin hb).2.2.2 e) hf⟩
  self := fun A i s Q E st h => wpAny_pyIter_zip st.1 h
def tZipQ (K : PySem.W.Frag) (ta : TA) : TI := fun σ H R => ta σ H fun vs H1 => ∃ t u a b xs ys, vs = [.ref a, .ref b] ∧ SqQ K t H1 a xs ∧ SqQ K u H1 b ys ∧ R (ItzQ K t u a b) H1
theorem pi_zipQ {X : Cx} {e e2 : Expr} {ta : TA} {p pos tpos : Pos} {elts : List Expr} {kk : Nat} (hg : Gl X "zip") (hm : X.mg "zip" = none) (ha : PA X [e, e2] ta)
    (hs : starEach [e, e2] X.env = (false, eval e X.env) :: starEach [e2] X.env := by rfl) (hpl : (backTo pos (starEach [e2] X.env)).any (·.1) = false := by rfl) : PI X (.Tuple elts kk tpos) (.Call (.Name "zip" p) [e, e2] [] pos) (tZipQ X.K ta) := by
  refine ⟨fun pins s σ H R I h => Call_ (ld_blt I hg hm PyProof.Rows.boot_zip (PyProof.Rows.callWith_type1 (thn (ha.run pos pins s σ H _ I h) fun us s1 ⟨vs, H1, I1, r1, t, u, a, b, xs, ys, ev, qx, qy, q⟩ => ?_) hs hpl))⟩
  subst ev
  obtain ⟨w1, w2, rfl, r1, r2⟩ := vals2 r1
  obtain rfl : w1 = Value.ref a := r1
  obtain rfl : w2 = Value.ref b := r2
  obtain ⟨is, rv, p1⟩ := seqQ I1 qx
  obtain ⟨is2, rv2, p2⟩ := seqQ I1 qy
  obtain ⟨o1, ho1⟩ := p1.obj
  obtain ⟨o2, ho2⟩ := p2.obj
  refine call_zipQ p1 p2 fun g hz hP hO h1 h2 hk => wpAny_pyIter_zip hz ?_
  have J : Inv X pins σ H1 { s1 with heap := g } := I1.kept (t' := s1.toks) hk
  refine ⟨s1.heap.objs.size + 4, [s1.heap.objs.size + 4, s1.heap.objs.size + 2, s1.heap.objs.size + 3, s1.heap.objs.size, s1.heap.objs.size + 1], _, _, H1, rfl, J, turn_zipQ (PySem.W.ktu_apart s1.heap.objs.size a b (Heap.lt_size ho1) (Heap.lt_size ho2)), ⟨hz, hP, ⟨_, _, hO⟩, h1, h2⟩, fun c hc => ?_, q⟩
  have le : s1.heap.objs.size ≤ c := by
    rcases five hc with r | r | r | r | r <;> rw [r]
    · exact Nat.le_add_right _ _
    · exact Nat.le_add_right _ _
    · exact Nat.le_add_right _ _
    · exact Nat.le_refl _
    · exact Nat.le_add_right _ _
  exact I1.fpOk le (I1.hok.fresh le)
/-- the items of a list or a tuple -/
@[simp] def seqP : PV → Option (List PV)
  | .lst xs => some xs | .tup xs => some xs | .frz xs => some xs
  | _ => none
@[simp] def iZipQ (d : DA) : DI := fun s => (d s).bind fun vs s1 => match vs with
  | [p, q] => (match seqP p, seqP q with
    | some xs, some ys => .ok (zipP xs ys) s1
    | _, _ => .bad)
  | _ => .bad
theorem seqP_rep {K : PySem.W.Frag} {g : Gx} {l0 : Lc} {p : PV} {v : V} {xs : List PV} (h : seqP p = some xs) (r : RepG K g l0 p v) : ∃ t a vs, v = .ref a ∧ RepGL K g l0 xs vs ∧ ∀ l, Step l0 l → SqQ K t l.H a vs := by
  cases p with
  | lst ys =>
    cases h
    obtain ⟨a, vs, rfl, n, ha, rs⟩ := r
    exact ⟨false, a, vs, rfl, rs, fun l st => lst_stays (fun z => n (.inl z)) ha st⟩
  | tup ys =>
    cases h
    obtain ⟨a, vs, rfl, ha, rs⟩ := r
    exact ⟨true, a, vs, rfl, rs, fun l st => tup_stays ha st⟩
  | frz ys =>
    cases h
    obtain ⟨a, vs, rfl, ha, rs⟩ := r
    exact ⟨false, a, vs, rfl, rs, fun l st => frz_stays ha st⟩
  | _ => cases h
theorem it_zipQ {K : PySem.W.Frag} {g : Gx} {l0 : Lc} {t u : Bool} {a b : Addr} {vs ws : List V} {xs ys : List PV} (hn : ∀ l, Step l0 l → SqQ K t l.H a vs) (hm : ∀ l, Step l0 l → SqQ K u l.H b ws) (rv : RepGL K g l0 xs vs) (rw' : RepGL K g l0 ys ws) : ItOk K g l0 (ItzQ K t u a b) (zipP xs ys) := fun i g' l st ec hN th => by
  have h1 := hn l st
  have h2 := hm l st
  have hl : (zipP xs ys).length = min xs.length ys.length := by simp [zipP]
  refine ⟨fun x hx => ?_, fun hx => ⟨vs, ws, h1, h2, by rw [← rv.length, ← rw'.length]; omega⟩⟩
  obtain ⟨p, q, hp, hq, rfl⟩ := zipP_get hx
  obtain ⟨v, hv, r⟩ := rv.get hp
  obtain ⟨w, hw, r2⟩ := rw'.get hq
  refine ⟨⟨vs, ws, v, w, h1, h2, hv, hw⟩, fun u' H' z => ?_⟩
  obtain ⟨T, v', w', rfl, hT, rfl, z1, z2⟩ := z
  have e1 : v' = v := by have := z1 vs h1; rw [hv] at this; exact (Option.some.inj this).symm
  have e2 : w' = w := by have := z2 ws h2; rw [hw] at this; exact (Option.some.inj this).symm
  subst e1 e2
  exact ⟨upd_keep hT, fun l1 ea eM eH => pair_rep hT (fun z => th T z hT) ea eM eH (st.rep2 ec hN r) (st.rep2 ec hN r2)⟩
section
variable {X : Cx} {g : Gx} {a b : Expr} {dr : DA} {pos : Pos}
theorem ji_zipQ {p tpos : Pos} {elts : List Expr} {kk : Nat} (ha : JA X g [a, b] dr) (hm : X.mg "zip" = none) (hg : Gl X "zip" := by rfl) (hs : starEach [a, b] X.env = (false, eval a X.env) :: starEach [b] X.env := by rfl) (hpl : (backTo pos (starEach [b] X.env)).any (·.1) = false := by rfl) : JI X g (.Tuple elts kk tpos) (.Call (.Name "zip" p) [a, b] [] pos) (iZipQ dr) :=
  PI.cq (pi_zipQ hg hm ha hs hpl) fun pins s σ H Q I q => by
    obtain ⟨l, s, rfl, ok, q⟩ := q
    refine ⟨l, s, rfl, ok, ?_⟩
    simp only [iZipQ] at q
    cases e1 : dr s with
    | bad => rw [e1] at q; exact q
    | exn e t => rw [e1] at q; exact q
    | ok vs t =>
      rw [e1] at q
      intro l1 us st1 ok1 r1
      simp only [R.bind] at q
      match vs, r1, q with
      | [x, y], r1, q =>
        simp only at q
        obtain ⟨v, r, rfl, h1, w, r2, rfl, h2, h3⟩ := r1
        cases (show r2 = [] from h3)
        cases ex : seqP x with
        | none => rw [ex] at q; exact q.elim
        | some xs =>
          cases ey : seqP y with
          | none => rw [ex, ey] at q; exact q.elim
          | some ys =>
            rw [ex, ey] at q
            obtain ⟨t1, a1, vs1, rfl, rs1, k1⟩ := seqP_rep ex h1
            obtain ⟨t2, a2, vs2, rfl, rs2, k2⟩ := seqP_rep ey h2
            exact ⟨t1, t2, a1, a2, vs1, vs2, rfl, k1 l1 (Step.refl _), k2 l1 (Step.refl _), q l1 _ st1 ok1 (it_zipQ k1 k2 rs1 rs2)⟩
      | [], _, q => exact q.elim
      | [_], _, q => exact q.elim
      | _ :: _ :: _ :: _, _, q => exact q.elim
end
end L3
namespace LD
open PySem L3
end LD
set_option maxHeartbeats 2000000
namespace L3
open PySem PySem.Spec PyProof.Rows L2
def repS (x : Str) (n : Nat) : Str := ⟨(List.replicate n x.cps).foldl (· ++ ·) #[]⟩
@[simp] def fRepS : PV → PV → S → R S PV := fun p q s => match p, q with
  | .str x, .int k => if -1000 ≤ k ∧ k ≤ 1000 ∧ x.length ≤ 1000 then .ok (.str (repS x k.toNat)) s else .bad
  | _, _ => .bad
@[simp] def gMulS : PV → PV → S → R S PV := fun p q s => match p with
  | .str _ => fRepS p q s
  | _ => gMul p q s
section
variable {X : Cx} {g : Gx}
@[simp] def fIntT : List PV → S → R S PV := fun ps s => match ps with
  | [.str x] => if x.length ≤ 640 then (match intText? x with
    | some n => .ok (.int n) s
    | none => .bad) else .bad
  | _ => fIntB ps s
@[simp] def fStrI : List PV → S → R S PV := fun ps s => match ps with
  | [.int i] => if ib i ≤ 1900 then .ok (.str (Str.ofString (toString i))) s else .bad
  | _ => .bad
end
end L3
set_option maxHeartbeats 2000000
namespace L3
open PySem PySem.Spec PyProof.Rows L2
@[simp] def gTL (n : Nat) (t : DGs) : DG := fun v s => match v with
  | .lst xs => if xs.length = n then t xs s else .bad
  | _ => .bad
section
variable {X : Cx} {g : Gx} {es : List Expr} {pos : Pos}
theorem jg_tupL {t : DGs} {k n : Nat} {js : List Nat} (hc : X.calm = true) (h : JGs X g js es t) (hn : (assignEach es X.env).length = n := by rfl) (hst : (assignEach es X.env).findIdx? (·.1) = none := by rfl) : JG X g js (.Tuple es k pos) (gTL n t) :=
  PG.cq (pg_unl hc h hn hst) fun v σ H Q q => by
    obtain ⟨l, s, p, rfl, ok, r, q⟩ := q
    cases p with
    | lst xs =>
      obtain ⟨a, vs, rfl, na, ha, ra⟩ := r
      simp only [gTL] at q
      by_cases z : xs.length = n
      · rw [if_pos z] at q
        exact ⟨a, vs, rfl, SqL.of ha, by rw [← ra.length]; exact z, l, s, xs, rfl, ok, ra, q⟩
      · rw [if_neg z] at q
        exact q.elim
    | _ => exact q.elim
end
end L3
namespace LD
open PySem L3
end LD
namespace LD
open PySem L3
end LD
set_option maxHeartbeats 1000000
namespace L3
open PySem PySem.Spec PyProof.Rows L2
end L3
set_option maxHeartbeats 1000000
namespace L3
open PySem PySem.Spec PyProof.Rows L2
@[simp] def gInK (neg : Bool) : PV → PV → S → R S PV := fun p q s => match q with
  | .dk ks xs => (match keyP p with
    | some k => .ok (.bl (xor neg (lookK k ks xs).isSome)) s
    | none => .bad)
  | _ => .bad
end L3
namespace LD
open PySem L3
end LD
namespace LD
open PySem L3
end LD
set_option maxHeartbeats 1000000
namespace L3
open PySem PySem.Spec PyProof.Rows L2
def downP (i : Int) (n : Nat) : List PV := (List.range n).map fun k => PV.int (i - (k : Nat))
def DnOk (i j : Int) : Prop := -(2 ^ 62) ≤ i ∧ i < 2 ^ 62 ∧ -(2 ^ 62) ≤ j ∧ j < 2 ^ 62 ∧ (i - j).toNat ≤ 2 ^ 24
instance (i j : Int) : Decidable (DnOk i j) := by unfold DnOk; infer_instance
@[simp] def dListDn (d : DA) : DL := fun s => (d s).bind fun ps s1 => match ps with
  | [.int i, .int j, .int c] => if c = -1 ∧ DnOk i j then .ok (downP i (i - j).toNat) s1 else .bad
  | _ => .bad
end L3
namespace LD
open PySem L3
end LD
set_option maxHeartbeats 1000000
namespace L3
open PySem PySem.Spec PyProof.Rows L2
def UpOk (j : Int) : Prop := -(2 ^ 62) ≤ j ∧ j < 2 ^ 62 ∧ j.toNat ≤ 2 ^ 24
instance (j : Int) : Decidable (UpOk j) := by unfold UpOk; infer_instance
@[simp] def dListUp (d : DA) : DL := fun s => (d s).bind fun ps s1 => match ps with
  | [.int j] => if UpOk j then .ok (rangeP 0 j.toNat) s1 else .bad
  | _ => .bad
end L3
set_option maxHeartbeats 1000000
namespace L3
open PySem PySem.Spec PyProof.Rows L2
def leP (a b : Int × Int) : Bool := decide (a.1 < b.1 ∨ (a.1 = b.1 ∧ a.2 ≤ b.2))
abbrev psort (l : List (Int × Int)) : List (Int × Int) := srt leP l
def prP (p : Int × Int) : PV := .tup [.int p.1, .int p.2]
def pairsP : List PV → Option (List (Int × Int))
  | [] => some []
  | .tup [.int i, .int j] :: r => (match pairsP r with | some ps => some ((i, j) :: ps) | none => none)
  | _ => none
@[simp] def fSortP : List PV → S → R S PV := fun ps s => match ps with
  | [.lst xs] => (match pairsP xs with
    | some is => .ok (.lst ((psort is).map prP)) s
    | none => .bad)
  | _ => .bad
end L3
namespace LD
open PySem L3
end LD
namespace LD
open PySem L3
end LD
set_option maxHeartbeats 1000000
namespace L3
open PySem PySem.Spec PyProof.Rows L2
instance keyIn (k : Key) (ks : List Key) : Decidable (k ∈ ks) := decidable_of_iff ((ks.any fun j => decide (j = k)) = true) (by rw [List.any_eq_true]; exact ⟨fun ⟨x, h, e⟩ => by rw [← of_decide_eq_true e]; exact h, fun h => ⟨k, h, decide_eq_true rfl⟩⟩)
def dicAt (mu : List MO) : PV → Option (Nat × List Key × List PV)
  | .ptr n => (match mu[n]? with
    | some (.dic ks xs) => some (n, ks, xs)
    | _ => none)
  | _ => none
@[simp] theorem dicAt_ptr {mu : List MO} {n : Nat} : dicAt mu (.ptr n) = (match mu[n]? with | some (.dic ks xs) => some (n, ks, xs) | _ => none) := rfl
def putKs (ks : List Key) (k : Key) : List Key := if k ∈ ks then ks else ks ++ [k]
def putXs {α : Type} : List Key → List α → Key → α → List α
  | j :: ks, x :: xs, k, v => if j = k then v :: xs else x :: putXs ks xs k v
  | _, _, _, v => [v]
@[simp] def dNewD : DE := fun s => .ok (.ptr s.mu.length) ⟨s.env, s.mu ++ [.dic [] []]⟩
@[simp] def dIxM (da db : DE) : DE := fun s => (da s).bind fun p s1 => (db s1).bind fun q s2 => match dicAt s2.mu p, keyP q with
  | some (_, ks, xs), some k => optR (lookK k ks xs) s2
  | _, _ => .bad
@[simp] def dGetM (da db dc : DE) : DE := fun s => (da s).bind fun p s1 => match dicAt s1.mu p with
  | some _ => (db s1).bind fun q s2 => (dc s2).bind fun z s3 => (match dicAt s3.mu p, keyP q with
    | some (_, ks, xs), some k => .ok ((lookK k ks xs).getD z) s3
    | _, _ => .bad)
  | none => .bad
@[simp] def dSetdM (da db dc : DE) : DE := fun s => (da s).bind fun p s1 => match dicAt s1.mu p with
  | some _ => (db s1).bind fun q s2 => (dc s2).bind fun z s3 => (match dicAt s3.mu p, keyP q with
    | some (n, ks, xs), some k => if ks.length < 16777216 then (match lookK k ks xs with
      | some x => .ok x s3
      | none => .ok z ⟨s3.env, s3.mu.set n (.dic (putKs ks k) (putXs ks xs k z))⟩) else .bad
    | _, _ => .bad)
  | none => .bad
@[simp] def dPutM (dv da db : DE) : DS := fun s => (dv s).bind fun v s1 => (da s1).bind fun p s2 => (db s2).bind fun q s3 => match dicAt s3.mu p, keyP q with
  | some (n, ks, xs), some k => if ks.length < 16777216 then .ok .nx ⟨s3.env, s3.mu.set n (.dic (putKs ks k) (putXs ks xs k v))⟩ else .bad
  | _, _ => .bad
end L3
namespace LD
open PySem L3
end LD
namespace L3
open PySem PySem.Spec PyProof.Rows L2
/-- the maker's names as the lambda sees them: own lists are not seen -/
@[simp] def capt : List (Option SV) → List (Option SV)
  | [] => []
  | some (.val v) :: r => some (.val v) :: capt r
  | _ :: r => none :: capt r
@[simp] def capV : List (Option SV) → List PV
  | [] => []
  | some (.val v) :: r => v :: capV r
  | _ :: r => .non :: capV r
section
variable {X : Cx} {pins : List (Addr × Obj)} {σ : St} {H : Hp} {s : Shared}
/-- where lambdas are made: the def's own code object, its table -/
structure Mkr (X : Cx) (y : Str) : Prop where
  mem : y ∈ TK X.K
  code : X.env.code = .ref (cdA X.K y)
  tab : LamX.TabB X.base X.mg (cdA X.K y) (tA X.K y)
  qual : X.env.qual ++ "<lambda>" = y ++ ".<locals>.<lambda>"
  inj : ∀ z ∈ TK X.K, tA X.K z = tA X.K y → z = y
end
end L3
namespace L3
open PySem PySem.Spec PyProof.Rows L2
section
variable {P : Program} {w : World} {K : PySem.W.Frag} {mg mb : Str → Option Value} {CX : CXT} {k : Nat} {fa a : Addr} {fd : FuncData} {x : Str} {sp : Sp} {s₁ : Shared} {vs : List Value} {ns : List Int} {names : List Str}
theorem callGT (KX : K.In s₁.heap) (hns : s₁.heap.Ns mainGlobals mg) (hb : s₁.heap.Ns builtinsNs mb) (hbb : ∀ x : Str, x ≠ "__name__" → mb x = bootBuiltins x) (hlim : s₁.heap.NoLimit) (hg : s₁.gens = #[]) (T : Tabs s₁.heap K names)
    (hbm : ∃ (bm : Addr) (ob : Obj), mg "__builtins__" = some (.ref bm) ∧ bm ≠ builtinsNs ∧ s₁.heap.get? bm = some ob ∧ ob.cls = .type "module" ∧ ob.dict = some builtinsNs ∧ ob.data = .plain)
    (ha : s₁.heap.get? a = some { cls := .type "list", data := .seq vs.toArray }) (hi : IntsAre vs ns) (hl : ns.length ≤ sizeLine) (hr : L2.Room k callerA)
    (F : ∀ base : Heap, K.In base → base.Ns mainGlobals mg → (∀ x ∈ names, LamX.TabB base mg (cdA K x) (tA K x)) → FnG P w K mg base CX k fa fd [x] sp) (hbind : ∀ (s : Shared) (u : Value), BindsTo s fd ⟨[u], []⟩ [(x, u)])
    (hsp : ∀ H : Hp, (∀ x ∈ names, H (tA K x) = some (.tbl #[])) → SqL K H a (ns.map V.int) → sp [.ref a] H (fun v _ => v = .bl true) fun _ _ _ => False) (hCX : ∀ H e s', CX [] H s₁ (fun _ _ _ => False) e s' → False) :
    codeAny (model P w) callerA (.call (.ref fa) ⟨[.ref a], []⟩) (fun r s' => r = .ok (.ret (.bool true)) ∧ OldK s₁.heap s'.heap ∧ s'.os = s₁.os ∧ AllBare s'.gens) s₁ := by
  have rv := vals_ints hi
  have isT : ∀ b ∈ names.map (tA K), s₁.heap.get? b = some { cls := .none, data := .fields #[] } := fun b hb => by
    obtain ⟨y, hy, rfl⟩ := List.mem_map.mp hb
    exact T.emp y hy
  have aT : a ∉ names.map (tA K) := fun z => by
    have q := isT a z
    rw [ha] at q
    cases q
  have inT : ∀ y ∈ names, tA K y ∈ names.map (tA K) := fun y hy => List.mem_map.mpr ⟨y, hy, rfl⟩
  -- the heap that is tracked: the tables, and the script
  obtain ⟨H, hT, hcase, hok, hS⟩ : ∃ H : Hp, (∀ b ∈ names.map (tA K), H b = some (.tbl #[])) ∧ (∀ b, b ∉ names.map (tA K) → H b = none ∨ (b = a ∧ K.lookup a = none ∧ ∃ o xs, H b = some (.frz o (.lst xs)))) ∧ HOk P w H s₁.heap ∧ SqL K H a (ns.map V.int) := by
    match hk : K.lookup a with
    | some o =>
      have e := KX a o hk
      rw [ha] at e
      cases e
      refine ⟨fun b => if b ∈ names.map (tA K) then some (.tbl #[]) else none, fun b h => if_pos h, fun b h => .inl (if_neg h), fun b u z => ?_, .inr ⟨_, vs.toArray, _, hk, rfl, rfl, rfl, by rw [List.size_toArray, hi.length]; exact hl, by simpa using rv⟩⟩
      by_cases q : b ∈ names.map (tA K)
      · have z := (if_pos q).symm.trans z
        cases z
        exact isT b q
      · have z := (if_neg q).symm.trans z
        cases z
    | none =>
      let ob : Obj := { cls := .type "list", data := .seq vs.toArray }
      refine ⟨fun b => if b ∈ names.map (tA K) then some (.tbl #[]) else if b = a then some (.frz ob (.lst (ns.map V.int))) else none, fun b h => if_pos h, fun b h => ?_, fun b u z => ?_, .inl (.inr ⟨ob, (if_neg aT).trans (if_pos rfl)⟩)⟩
      · by_cases q : b = a
        · exact .inr ⟨q, rfl, ob, _, (if_neg h).trans (if_pos q)⟩
        · exact .inl ((if_neg h).trans (if_neg q))
      · by_cases q : b ∈ names.map (tA K)
        · have z := (if_pos q).symm.trans z
          cases z
          exact isT b q
        · have z := (if_neg q).symm.trans z
          by_cases q2 : b = a
          · have z := (if_pos q2).symm.trans z
            cases z
            subst q2
            exact ⟨ha, by rw [List.length_map]; exact hl, vs, _, rv, ha⟩
          · have z := (if_neg q2).symm.trans z
            cases z
  -- what is not tracked
  have out : ∀ (b : Addr) (o : Obj), s₁.heap.get? b = some o → (∀ us n, o.data ≠ .seq us n) → o.data ≠ .fields #[] → H b = none := fun b o e n1 n2 => by
    by_cases q : b ∈ names.map (tA K)
    · rw [isT b q] at e
      cases e
      exact absurd rfl n2
    · rcases hcase b q with z | ⟨z, _⟩
      · exact z
      · rw [z, ha] at e
        cases e
        exact absurd rfl (n1 _ _)
  have hid : ∀ {b : Addr} {m : Str → Option Value}, s₁.heap.Ns b m → (hidT s₁.heap H).Ns b m := by
    rintro b m ⟨o, es, ep, e, d, r⟩
    exact ⟨o, es, ep, hidT_get e (out b o e (fun us n z => by rw [d] at z; cases z) (fun z => by rw [d] at z; cases z)), d, r⟩
  have kin : K.In (hidT s₁.heap H) := fun b o e => by
    refine hidT_get (KX b o e) ?_
    by_cases q : b ∈ names.map (tA K)
    · obtain ⟨y, hy, rfl⟩ := List.mem_map.mp q
      rw [T.out y hy] at e
      cases e
    · rcases hcase b q with z | ⟨z, z2, _⟩
      · exact z
      · rw [z, z2] at e
        cases e
  have tb : ∀ y ∈ names, LamX.TabB (hidT s₁.heap H) mg (cdA K y) (tA K y) := fun y hy => by
    refine ⟨?_, ?_, fun z => ?_⟩
    · obtain ⟨o, us, file, tf, flags, tg, inF, text, tt, e1, r1, r2, r3, r⟩ := T.hd y hy
      exact ⟨o, us, file, tf, flags, tg, inF, text, tt, hidT_get e1 (out _ o e1 (fun vs n z => by rw [r2] at z; cases z) fun z => by
        rw [r2] at z
        cases z
        simp at r3), r1, r2, r3, r⟩
    · obtain ⟨bm, ob, b1, b2, b3, b4, b5, b6⟩ := hbm
      refine ⟨bm, ob, b1, b2, fun q => ?_, fun q => ?_, hidT_get b3 (out _ ob b3 (fun vs n z => by rw [b6] at z; cases z) fun z => by rw [b6] at z; cases z), b4, b5, b6⟩
      · obtain ⟨o, es, ep, e, hd, _⟩ := hns
        rw [q, e] at b3
        cases b3
        rw [hd] at b6
        cases b6
      · rw [q, T.emp y hy] at b3
        cases b3
        cases b6
    · obtain ⟨o, es, ep, e, hd, _⟩ := hns
      rw [z, T.emp y hy] at e
      cases e
      cases hd
  obtain ⟨mc, c1, c2⟩ := hlim
  have e0 : Env0 P w K mg (hidT s₁.heap H) callerA [] s₁ H := ⟨rfl, ⟨kin, hid hns, ⟨mb, hid hb, hbb⟩, ⟨mc, hid c1, c2⟩⟩, fun b o e => of_hidT e, Nat.le_of_eq (hidT_size _ _), trivial, fun b z => (nomatch z), hok, .of_eq hg⟩
  refine codeAny_mono ((F _ kin (hid hns) tb).run callerA [] s₁ H ⟨[.ref a], []⟩ [.ref a] [.ref a] _ _ (room_top hr) e0 (hbind s₁ (.ref a)) (.cons rfl .nil) (hsp H (fun y hy => hT _ (inT y hy)) hS)) fun r s' h => ?_
  match r, h with
  | .error e, z => exact (hCX H e s' z).elim
  | .ok .next, z => exact False.elim z
  | .ok .brk, z => exact False.elim z
  | .ok .cont, z => exact False.elim z
  | .ok (.ret u), ⟨v, H', os, bare, un, hok', rv', ev⟩ =>
    have ev : v = .bl true := ev
    subst ev
    cases (show u = Value.bool true from rv')
    have tabs' : ∀ b ∈ names.map (tA K), ∃ more : Array Value, s'.heap.get? b = some { cls := .none, data := .fields more } := fun b hb => by
      obtain ⟨more, z⟩ := un.tbls b #[] (hT b hb)
      exact ⟨_, hok' b _ z⟩
    have keep' : ∀ b o, b ∉ names.map (tA K) → s₁.heap.get? b = some o → s'.heap.get? b = some o := fun b o nb e => by
      rcases hcase b nb with z | ⟨_, _, ob, xs, z⟩
      · exact un.keep b o e z (fun y => nomatch y) (fun y => nomatch y)
      · have e1 := (hok b _ z).1
        rw [e] at e1
        cases e1
        exact (hok' b _ (un.frzs b _ _ z)).1
    refine ⟨rfl, ⟨fun b o e => ?_, fun b o e => ?_⟩, os, bare⟩
    · by_cases q : b ∈ names.map (tA K)
      · obtain ⟨more, hm⟩ := tabs' b q
        obtain ⟨y, hy, ey⟩ := List.mem_map.mp q
        have e2 := e
        rw [isT b q] at e2
        cases e2
        have cd := (T.hd y hy).tab (T.emp y hy)
        rw [ey] at cd
        exact .inr (.inl ⟨cd.isCodeTable, rfl, #[], more, rfl, by rw [Array.empty_append]; exact hm⟩)
      · exact .inl (keep' b o q e)
    · by_cases q : b ∈ names.map (tA K)
      · obtain ⟨more, hm⟩ := tabs' b q
        exact ⟨_, hm⟩
      · exact ⟨o, keep' b o q e⟩
end
/-- a law's end -/
theorem walkGT {l : PySem.W.OpenLaw} {n k : Nat} {q : Program} {loose : List Str} {XP : (Str → Option Value) → Heap → Prop} {YP : World → Heap → Prop} {d : DefRec} {CX : CXT} {x : Str} {names : List Str} (hn : l.most = some n) (hn2 : n ≤ sizeLine) (hdf : d.params.defaults = []) (hr : L2.Room k callerA)
    (F : ∀ (w : World) (mg : Str → Option Value) (fa : Addr) (h : Heap), YP w h → h.Ns mainGlobals mg → mg d.name = some (.ref fa) →
      ∃ (K : PySem.W.Frag) (fd : FuncData) (sp : Sp), K.In h ∧ Tabs h K names ∧ (∀ (s : Shared) (u : Value), BindsTo s fd ⟨[u], []⟩ [(x, u)]) ∧ (∀ (H : Hp) (a : Addr) (ns : List Int), ns.length ≤ n → (∀ x ∈ names, H (tA K x) = some (.tbl #[])) → SqL K H a (ns.map V.int) → sp [.ref a] H (fun v _ => v = .bl true) fun _ _ _ => False) ∧
        ∀ base : Heap, K.In base → base.Ns mainGlobals mg → (∀ x ∈ names, LamX.TabB base mg (cdA K x) (tA K x)) → FnG l.prog w K mg base CX k fa fd [x] sp)
    (hCX : ∀ (H : Hp) (s : Shared) (e : Value) (s' : Shared), CX [] H s (fun _ _ _ => False) e s' → False) : PySem.W.WalkO q loose XP YP l.row.toRowW d [] (fun f vs => PySem.call f vs) := by
  refine Att.attach_call hn hdf fun w s₀ s₁ mg mb fa o pm cd doc a vs ns G Y ho hd hcd hmg hobj hints hlen hg => ?_
  obtain ⟨K, fd, sp, KX, T, hb, hsp, hF⟩ := F w mg fa _ Y G.T.g hmg
  have t := G.T
  exact callGT KX t.g t.b t.builtins t.nolimit hg T t.bmain hobj hints (Nat.le_trans hlen hn2) hr hF hb (fun H hT hS => hsp H a ns hlen hT hS) fun H e s' => hCX H s₁ e s'
theorem inj_nd {f : Str → Addr} : ∀ {l : List Str}, (l.map f).Nodup → ∀ a ∈ l, ∀ b ∈ l, f a = f b → a = b
  | n :: r, h, a, ha, b, hb, e => by
    rw [List.map_cons, List.nodup_cons] at h
    rcases List.mem_cons.mp ha with ha | ha
    · rcases List.mem_cons.mp hb with hb | hb
      · rw [ha, hb]
      · exact absurd (List.mem_map.mpr ⟨b, hb, by rw [← e, ha]⟩) h.1
    · rcases List.mem_cons.mp hb with hb | hb
      · exact absurd (List.mem_map.mpr ⟨a, ha, by rw [e, hb]⟩) h.1
      · exact inj_nd h.2 a ha b hb e
/-- a def that makes lambdas -/
theorem Mkr.of {K : PySem.W.Frag} {base : Heap} {mg : Str → Option Value} {h : Heap} {names : List Str} {P : Program} {w : World} {N : List Str} {y : Str} {scope : Scope} {cdv : Value} {A : Around} {outer : List Env} {s : Shared} {H : Hp} {E : XK} (T : Tabs h K names) (tb : ∀ x ∈ names, LamX.TabB base mg (cdA K x) (tA K x)) (hy : y ∈ names) (hc : CodeAt K (He.ga K y) cdv y)
    (hq : (envOfC y scope s.heap.objs.size (He.ga K y) cdv).qual ++ "<lambda>" = y ++ ".<locals>.<lambda>") : Mkr (cxOf (L2.CX P w) P w K mg base N y scope (He.ga K y) cdv A outer s H E) y := by
  obtain ⟨⟨oc, od, fd, osl, lk, e⟩, cc⟩ := hc
  have hcd : cdv = .ref (cdA K y) := by
    unfold cdA
    rw [lk]
    match cdv, cc, e with
    | .ref c, _, e => show Value.ref c = .ref (match fd.code with | .ref c => c | _ => 0); rw [e]
  refine ⟨by rw [show TK (cxOf (L2.CX P w) P w K mg base N y scope (He.ga K y) cdv A outer s H E).K = names from T.tk]; exact hy, hcd, tb y hy, hq, fun z hz e2 => ?_⟩
  have hz : z ∈ names := by rw [← T.tk]; exact hz
  exact inj_nd T.nd z hz y hy e2
end L3
namespace L3
open PySem PySem.Spec PyProof.Rows L2
@[simp] def fIsX (all yes : List Str) : PV → S → R S PV := fun p s => match p with
  | .exc c _ _ => if c ∈ all then .ok (.bl (decide (c ∈ yes))) s else .bad
  | _ => .bad
end L3
namespace LD
end LD
namespace L3
open PySem PySem.Spec PyProof.Rows L2
@[simp] def catF : PV → PV → S → R S (List PV) := fun p q s => match p, q with
  | .lst xs, .lst ys => if xs.length + ys.length ≤ 16777216 then .ok (xs ++ ys) s else .bad
  | _, _ => .bad
@[simp] def dCatF (da db : DE) : DL := fun s => (da s).bind fun p s1 => (db s1).bind fun q s2 => catF p q s2
end L3
namespace LD
end LD
namespace L3
open PySem PySem.Spec PyProof.Rows L2
def insN (mu : List MO) : PV → Option (Str × List Str × List PV)
  | .ptr n => (match mu[n]? with
    | some (.nst c ns xs) => some (c, ns, xs)
    | _ => none)
  | _ => none
@[simp] theorem insN_ptr {mu : List MO} {n : Nat} : insN mu (.ptr n) = (match mu[n]? with | some (.nst c ns xs) => some (c, ns, xs) | _ => none) := rfl
theorem rep_nst {K : PySem.W.Frag} {g : Gx} {l : Lc} {s : S} {σ : St} {p : PV} {x : V} {c : Str} {ns : List Str} {xs : List PV} (ok : Sok K g l s σ) (r : RepG K g l p x) (h : insN s.mu p = some (c, ns, xs)) :
    ∃ n a dx vs, p = .ptr n ∧ s.mu[n]? = some (.nst c ns xs) ∧ l.al[n]? = some a ∧ x = .ref a ∧ l.H a = some (.ins (He.ga K c) dx (ns.zip vs)) ∧ ns.length = vs.length ∧ RepGL K g l xs vs := by
  cases p with
  | ptr n =>
    obtain ⟨a, ha, rfl⟩ := r
    simp only [insN] at h
    cases e : s.mu[n]? with
    | none => rw [e] at h; cases h
    | some m =>
      rw [e] at h
      cases m with
      | lst ys => cases h
      | dic ks ys => cases h
      | ins c ks ys => cases h
      | nst C' ns' ys =>
        cases h
        obtain ⟨dx, vs, h1, h2, h3⟩ := ok.mu n a _ ha e
        exact ⟨n, a, dx, vs, rfl, e, ha, rfl, h1, h2, h3⟩
  | _ => cases h
theorem getV_none {α : Type} {f : Str} : ∀ {ns : List Str} {vs : List α}, f ∉ ns → getV f ns vs = none
  | [], _, _ => by simp [getV]
  | n :: ns, [], _ => rfl
  | n :: ns, x :: vs, h => by
    have h1 : ¬ n = f := fun z => h (by rw [z]; exact List.mem_cons_self)
    show (if n = f then some x else getV f ns vs) = none
    rw [if_neg h1]
    exact getV_none fun z => h (List.mem_cons_of_mem _ z)
def ClsFN (K : PySem.W.Frag) (cs : List Str) (f : Str) : Prop := ∀ c ∈ cs, Cls K (He.ga K c) ∧ NoAttr K (He.ga K c) f
@[simp] def fFldN (cs : List Str) (f : Str) : PV → S → R S PV := fun p s => match insN s.mu p with
  | some (c, ns, xs) => if c ∈ cs then optR (getV f ns xs) s else .bad
  | none => .bad
@[simp] def dFPutN (cs : List Str) (f : Str) (ob de : DE) : DS := fun s => (de s).bind fun v s1 => (ob s1).bind fun o s2 => match o with
  | .ptr n => (match s2.mu[n]? with
    | some (.nst c ns xs) => if c ∈ cs ∧ ns.length < 1000 then .ok .nx ⟨s2.env, s2.mu.set n (.nst c (putN f ns) (putV f v ns xs))⟩ else .bad
    | _ => .bad)
  | _ => .bad
section
variable {X : Cx} {g : Gx} {a b c e o : Expr} {es : List Expr} {da db dc de dob : DE} {dr : DA} {pos : Pos} {p apos : Pos}
theorem j_fldN {cs : List Str} {fl : Str} (T : ClsFN X.K cs fl) (he : JE X g e de) (hb : attributeBase e fl X.env (eval e X.env) = eval e X.env := by rfl) : JE X g (.Attribute e fl pos) (dUn (fFldN cs fl) de) := PE.cq (pe_fld he hb) fun pins s σ H Q I q => by
  obtain ⟨l, s, rfl, ok, q⟩ := q
  refine ⟨l, s, rfl, ok, Run.mono (Run.bind q) fun u H1 ⟨l1, s1, v, e1, ok1, r1, st1, h1⟩ => ?_⟩
  subst e1
  simp only [fFldN] at h1
  cases e2 : insN s1.mu v with
  | none => rw [e2] at h1; exact h1.elim
  | some z =>
    obtain ⟨C, ns, xs⟩ := z
    rw [e2] at h1
    simp only at h1
    by_cases hc : C ∈ cs
    · rw [if_pos hc] at h1
      cases e3 : L3.getV fl ns xs with
      | none => simp only [e3, optR] at h1; exact h1.elim
      | some y =>
        simp only [e3, optR] at h1
        obtain ⟨n, a, dx, vs, _, _, _, rfl, h2, h3, h4⟩ := rep_nst ok1 r1 e2
        obtain ⟨w, hw, rw'⟩ := h4.getV e3
        exact ⟨a, He.ga X.K C, dx, _, w, rfl, h2, (T C hc).1, (T C hc).2, by rw [lookup_zip]; exact hw, h1 l1 w (Step.refl l1) ok1 rw'⟩
    · rw [if_neg hc] at h1
      exact h1.elim
theorem js_fputN {cs : List Str} {fl : Str} {p2 : Pos} (T : ClsFN X.K cs fl) (ho : JE X g o dob) (he : JE X g e de) (hs : swapsWith e (some (.Attribute o fl p2)) pos.line X.env = pure false := by rfl) : JS X g (.Assign [.Attribute o fl p2] e pos) (dFPutN cs fl dob de) :=
  PS.cq (ps_fld ho he hs) fun pins s D σ H I q => by
    obtain ⟨l, s, rfl, ok, q⟩ := q
    refine ⟨l, s, rfl, ok, Run.mono (Run.bindS q) fun u H1 ⟨l1, s1, v, e1, ok1, r1, st1, h1⟩ => ?_⟩
    refine ⟨l1, s1, e1, ok1, Run.mono (Run.bindS h1) fun w H2 ⟨l2, s2, y, e2, ok2, r2, st2, h2⟩ => ?_⟩
    subst e2
    cases y with
    | ptr n =>
      simp only at h2
      cases e3 : s2.mu[n]? with
      | none => rw [e3] at h2; exact h2.elim
      | some z =>
        rw [e3] at h2
        cases z with
        | lst xs => exact h2.elim
        | dic ks xs => exact h2.elim
        | ins c ks xs => exact h2.elim
        | nst C ns xs =>
          simp only at h2
          by_cases hc : C ∈ cs ∧ ns.length < 1000
          · rw [if_pos hc] at h2
            obtain ⟨a, ha, rfl⟩ := r2
            obtain ⟨dx, vs, h3, h4, h5⟩ := ok2.mu n a _ ha e3
            refine ⟨a, He.ga X.K C, dx, _, rfl, h3, (T C hc.1).1, (T C hc.1).2, by rw [List.length_zip, ← h4]; have := hc.2; omega, ?_⟩
            have hM : l2.M a := ok2.alM a (List.mem_of_getElem? ha)
            have st := Step.at_ hM (.ins (He.ga X.K C) dx (L2.putF fl u (ns.zip vs)))
            exact h2 _ σ st (ok2.muSet ha fun l' e1 e2 e3 => ⟨dx, putV fl u ns vs, by rw [e3, upd_same, putF_zip h4], put_len (a := V) h4, by
              have q := RepL.put (f := fl) (ns := ns) (st.rep (st2.rep r1)) (st.reps h5)
              show RepL X.K g.CR l'.al (g.L l') l'.H _ _
              have el : l' = ⟨l2.al, l2.M, upd l2.H a (.ins (He.ga X.K C) dx (L2.putF fl u (ns.zip vs)))⟩ := by
                obtain ⟨x1, x2, x3⟩ := l'
                cases e1; cases e2; cases e3; rfl
              rw [el]
              exact q⟩)
          · rw [if_neg hc] at h2
            exact h2.elim
    | _ => exact h2.elim
/-- what stands for the method m of each class -/
def MTab (X : Cx) (g : Gx) (m : Str) (tb : List (Str × (List PV → S → R S PV))) : Prop := ∀ c fn, tb.lookup c = some fn → Cls X.K (He.ga X.K c) ∧ ∃ f, Meth X.K (He.ga X.K c) m f ∧ KJ X g f fn
theorem mt_nil {m : Str} : MTab X g m [] := fun c fn e => by cases e
theorem mt_cons {m k : Str} {f : Addr} {fn : List PV → S → R S PV} {tb : List (Str × (List PV → S → R S PV))} (T : Cls X.K (He.ga X.K k)) (hm : Meth X.K (He.ga X.K k) m f) (hc : KJ X g f fn) (r : MTab X g m tb) : MTab X g m ((k, fn) :: tb) := fun c fn' e => by
  rw [List.lookup_cons] at e
  cases z : (c == k) with
  | true =>
    rw [z] at e
    cases e
    rw [eq_of_beq z]
    exact ⟨T, f, hm, hc⟩
  | false =>
    rw [z] at e
    exact r c fn' e
@[simp] def dMethN (m : Str) (tb : List (Str × (List PV → S → R S PV))) (d : DE) (dr : DA) : DE := fun s => (d s).bind fun p s1 => match insN s1.mu p with
  | some (c, ns, _) => (match tb.lookup c with
    | some fn => if m ∈ ns then .bad else (dr s1).bind fun ps s2 => fn (p :: ps) s2
    | none => .bad)
  | none => .bad
theorem j_methN {m : Str} {tb : List (Str × (List PV → S → R S PV))} {pl : Sem Bool} (T : MTab X g m tb) (ho : JE X g o dob) (ha : JA X g (e :: es) dr)
    (hst : starEach (e :: es) X.env = (false, eval e X.env) :: starEach es X.env := by rfl) (hpl : (backTo pos (starEach es X.env)).any (·.1) = false := by rfl)
    (htr : eval (.Call (.Attribute o m apos) (e :: es) [] pos) X.env = (do
      let ov ← eval o X.env
      standAt apos.atName
      let (f, first) ← holding [ov] (getMethod ov m pl)
      callWith pos f first (backTo pos (starEach (e :: es) X.env)) (backToKw pos (keywordEach [] X.env))) := by rfl) :
    JE X g (.Call (.Attribute o m apos) (e :: es) [] pos) (dMethN m tb dob dr) := by
  refine ⟨fun pins s σ H Q I h => ?_⟩
  obtain ⟨l, st, rfl, ok, h⟩ := h
  refine PySem.W.methodCall_KW (pl := pl) (thn (ho.run pins s σ _ _ I ⟨l, st, rfl, ok, Run.bind h⟩) fun u s1 ⟨x, H1, I1, rx, l1, s1', v, e1, ok1, r1, st1, h1⟩ => ?_) htr
  subst e1
  cases e2 : insN s1'.mu v with
  | none => rw [e2] at h1; exact h1.elim
  | some z =>
    obtain ⟨C, ns, xs⟩ := z
    rw [e2] at h1
    simp only at h1
    cases e3 : tb.lookup C with
    | none => rw [e3] at h1; exact h1.elim
    | some fn =>
      rw [e3] at h1
      simp only at h1
      by_cases hm : m ∈ ns
      · rw [if_pos hm] at h1; exact h1.elim
      rw [if_neg hm] at h1
      obtain ⟨n, a, dx, vs, rfl, hmu, hal, rfl, hH, hlen, hrs⟩ := rep_nst ok1 r1 e2
      obtain rfl : u = Value.ref a := rx
      obtain ⟨TC, f, hmt, hc⟩ := T C fn e3
      refine getmeth_ok I1 hH TC hmt (by rw [lookup_zip]; exact getV_none hm) ?_
      refine PySem.W.callWith_K (first := [.ref a]) (h₀ := X.base) I.ok.mod.kin hmt.kp (thn (ha.run pos pins s1 σ _ _ I1 ⟨l1, s1', rfl, ok1, RunA.bind h1⟩) fun us s2 ⟨vs2, H2, I2, r, l2, s2', ps, e2, ok2, rp, st2, h2⟩ => ⟨I2.kIn, ?_⟩) hst hpl
      subst e2
      exact hc.cj pins s2 σ (.ref a :: vs2) (.ref a :: us) Q l2 s2' (.ptr n :: ps) I2 (.cons rfl r) ok2 ⟨.ref a, vs2, rfl, st2.rep (x := .ptr n) ⟨a, hal, rfl⟩, rp⟩ h2
theorem j_methN0 {m : Str} {tb : List (Str × (List PV → S → R S PV))} {pl : Sem Bool} (T : MTab X g m tb) (ho : JE X g o dob)
    (htr : eval (.Call (.Attribute o m apos) [] [] pos) X.env = (do
      let ov ← eval o X.env
      standAt apos.atName
      let (f, first) ← holding [ov] (getMethod ov m pl)
      callWith pos f first (backTo pos (starEach [] X.env)) (backToKw pos (keywordEach [] X.env))) := by rfl) :
    JE X g (.Call (.Attribute o m apos) [] [] pos) (dMethN m tb dob dNil) := by
  refine ⟨fun pins s σ H Q I h => ?_⟩
  obtain ⟨l, st, rfl, ok, h⟩ := h
  refine PySem.W.methodCall_KW (pl := pl) (thn (ho.run pins s σ _ _ I ⟨l, st, rfl, ok, Run.bind h⟩) fun u s1 ⟨x, H1, I1, rx, l1, s1', v, e1, ok1, r1, st1, h1⟩ => ?_) htr
  subst e1
  cases e2 : insN s1'.mu v with
  | none => rw [e2] at h1; exact h1.elim
  | some z =>
    obtain ⟨C, ns, xs⟩ := z
    rw [e2] at h1
    simp only at h1
    cases e3 : tb.lookup C with
    | none => rw [e3] at h1; exact h1.elim
    | some fn =>
      rw [e3] at h1
      simp only at h1
      by_cases hm : m ∈ ns
      · rw [if_pos hm] at h1; exact h1.elim
      rw [if_neg hm] at h1
      obtain ⟨n, a, dx, vs, rfl, hmu, hal, rfl, hH, hlen, hrs⟩ := rep_nst ok1 r1 e2
      obtain rfl : u = Value.ref a := rx
      obtain ⟨TC, f, hmt, hc⟩ := T C fn e3
      refine getmeth_ok I1 hH TC hmt (by rw [lookup_zip]; exact getV_none hm) ?_
      exact PySem.W.callWith_K0 (first := [.ref a]) I1.kIn hmt.kp (hc.cj pins s1 σ [.ref a] [.ref a] Q l1 s1' [.ptr n] I1 (.cons rfl .nil) ok1 ⟨.ref a, [], rfl, ⟨a, hal, rfl⟩, rfl⟩ h1)
def PTab (X : Cx) (g : Gx) (k : Nat) (m : Str) (tb : List (Str × DF)) : Prop := ∀ c F, tb.lookup c = some F → Cls X.K (He.ga X.K c) ∧ ∃ pA gA fd, PropOf X.K (He.ga X.K c) m pA gA ∧ FJ X.prog X.w X.K X.mg X.base g.CR k gA fd ["self"] F ∧ Binds X.K fd ["self"] []
@[simp] def fPropN (tb : List (Str × DF)) : PV → S → R S PV := fun p s => match insN s.mu p with
  | some (c, _, _) => (match tb.lookup c with
    | some F => fnQ F [p] s
    | none => .bad)
  | none => .bad
theorem j_propN {k : Nat} {fl : Str} {tb : List (Str × DF)} (T : PTab X g k fl tb) (hr : Room (k + 1) X.A) (he : JE X g e de) (hab : attributeBase e fl X.env (eval e X.env) = eval e X.env := by rfl) :
    JE X g (.Attribute e fl pos) (dUn (fPropN tb) de) :=
  ⟨fun pins s σ H Q I h => by
    obtain ⟨l, st, rfl, ok, h⟩ := h
    refine attr_of hab (thn (he.run pins s σ _ _ I ⟨l, st, rfl, ok, Run.bind h⟩) fun u s1 ⟨x, H1, I1, rx, l1, s1', v, e1, ok1, r1, st1, h1⟩ => ?_)
    subst e1
    simp only [fPropN] at h1
    cases e2 : insN s1'.mu v with
    | none => rw [e2] at h1; exact h1.elim
    | some z =>
      obtain ⟨C, ns, xs⟩ := z
      rw [e2] at h1
      simp only at h1
      cases e3 : tb.lookup C with
      | none => rw [e3] at h1; exact h1.elim
      | some F =>
        rw [e3] at h1
        simp only at h1
        obtain ⟨n, a, dx, vs, rfl, hmu, hal, rfl, hH, hlen, hrs⟩ := rep_nst ok1 r1 e2
        obtain rfl : u = Value.ref a := rx
        obtain ⟨TC, pA, gA, fd, hp, G, hb⟩ := T C F e3
        exact propG (E := fun _ _ _ => False) I1 hH TC hp G hr hb .nil (fun s e s' I c => by
          obtain ⟨_, _, _, _, _, _, _, _, _, _, _, _, z⟩ := c
          exact z.elim) (quiet_asks ok1 (ps := [.ptr n]) ⟨.ref a, [], rfl, ⟨a, hal, rfl⟩, rfl⟩ rfl h1)⟩
end
end L3
namespace L3
open PySem PySem.Spec PyProof.Rows L2
/-- C(e, ..) by __init__'s promise, an exception at its place -/
theorem makeX {k : Nat} {f C : Addr} {fd : FuncData} {ps : List Str} {sp : Sp} {E : XK} {X : Cx} {pins : List (Addr × Obj)} {σ : St} {H : Hp} {s : Shared} {Q : VK} {us : List Value} {kw : List (Str × Value)} {vs' : Addr → List V} (M : Mk X.K C f)
    (F : FnG X.prog X.w X.K X.mg X.base (L2.CX X.prog X.w) k f fd ps sp) (hr : Room (k + 1) X.A) (hx : PassesAt (L2.CX X.prog X.w) X σ E) (I : Inv X pins σ H s)
    (hb : ∀ (s : Shared) (x : Addr), X.K.In s.heap → ∃ us' : List Value, BindsTo s fd ⟨.ref x :: us, kw⟩ (ps.zip us') ∧ Vals (vs' x) us')
    (h : ∀ x dx, H x = none → H dx = none → dx ≠ x → sp (vs' x) (upd (upd H dx (.own x)) x (.ins C dx [])) (fun v H2 => v = .non ∧ Q (.ref x) H2) E) :
    wpAny (model X.prog X.w) X.A (call (.ref C) us kw) (EP X pins σ Q) X.xe s := by
  let n := s.heap.objs.size
  have q1 := h (n + 1) n (I.hok.fresh (Nat.le_succ _)) (I.hok.fresh (Nat.le_refl _)) (Nat.ne_of_lt (Nat.lt_succ_self _))
  have J := Inv.made (C := C) I
  obtain ⟨us', hb1, rr⟩ := hb _ (n + 1) J.kIn
  refine wpAny_call (make_map (f := f) I.kIn M.makes M.init (beq_iff_eq.mp M.fn) (codeAny_mono (F.run _ X.stack _ _ ⟨Value.ref (n + 1) :: us, kw⟩ us' _ _ E (hr.make C us kw) (J.env0.make C us kw) hb1 rr q1) fun r s' z => ?_))
  match r, z with
  | .error e, z => exact hx pins _ _ e s' J z
  | .ok (.ret u), z =>
    obtain ⟨v, H', I3, rv, rfl, q3⟩ := J.after z
    exact ⟨rv, ⟨V.ref (n + 1), H', I3, rfl, q3⟩⟩
  | .ok .next, z => exact False.elim z
  | .ok .brk, z => exact False.elim z
  | .ok .cont, z => exact False.elim z
section
variable {K : PySem.W.Frag} {g : Gx} {l : Lc} {s : S} {σ : St} {p : Addr}
theorem Sok.muNewO (ok : Sok K g l s σ) {H1 : Hp} {m : MO} (hp : l.H p = none) (kp : ∀ a o, l.H a = some o → H1 a = some o) (hn : H1 p ≠ none) (hm : MoRep K g ⟨l.al ++ [p], fun a => l.M a ∨ a = p, H1⟩ p m) :
    Step l ⟨l.al ++ [p], fun a => l.M a ∨ a = p, H1⟩ ∧ Sok K g ⟨l.al ++ [p], fun a => l.M a ∨ a = p, H1⟩ ⟨s.env, s.mu ++ [m]⟩ σ := by
  have there : ∀ {a}, l.H a ≠ none → H1 a ≠ none := fun {a} h => by
    cases q : l.H a with
    | none => exact absurd q h
    | some o => rw [kp a o q]; simp
  have st : Step l ⟨l.al ++ [p], fun a => l.M a ∨ a = p, H1⟩ := ⟨⟨[p], rfl⟩, fun a h => by
      rcases h with h | h
      · exact .inl h
      · exact .inr (by rw [h]; exact hp), fun a o _ h => kp a o h, fun a h => there h⟩
  have nal : p ∉ l.al := fun z => ok.there p (.inl (ok.alM p z)) hp
  refine ⟨st, ok.len, fun j v h => ?_, fun j zs h => ?_, ok.dis, by show (l.al ++ [p]).length = (s.mu ++ [_]).length; rw [List.length_append, List.length_append, ok.mlen]; rfl, fun m' b o h1 h2 => ?_, ?_, fun a h => ?_, fun b h => ?_, fun b h => ?_, fun x hx => ?_⟩
  rotate_right
  · have ne : tA K x ≠ p := (ok.tabs x hx).ne0 hp
    exact (ok.tabs x hx).to (.inl (ok.tabs x hx).M) (fun z => by
      rcases List.mem_append.mp z with z | z
      · exact (ok.tabs x hx).al z
      · exact ne (List.mem_singleton.mp z)) (fun ps q => kp _ _ q) fun c q n e => st.repL' c _ n e
  · obtain ⟨u, h1, h2⟩ := ok.env j v h
    exact ⟨u, h1, st.rep h2⟩
  · obtain ⟨b, ws, h1, h2, h3, h4, h5⟩ := ok.own j zs h
    have nb : b ≠ p := ne_of_none h4 hp
    exact ⟨b, ws, h1, .inl h2, fun z => by
      rcases List.mem_append.mp z with z | z
      · exact h3 z
      · exact nb (by simpa using z), kp _ _ h4, st.reps h5⟩
  · have h1' : (l.al ++ [p])[m']? = some b := h1
    have h2' : (s.mu ++ [m])[m']? = some o := h2
    by_cases e : m' < l.al.length
    · rw [List.getElem?_append_left e] at h1'
      rw [List.getElem?_append_left (by rw [← ok.mlen]; exact e)] at h2'
      have q := ok.mu m' b o h1' h2'
      cases o with
      | lst zs =>
        obtain ⟨ws, q1, q2⟩ := q
        exact ⟨ws, kp _ _ q1, st.reps q2⟩
      | ins C ns zs =>
        obtain ⟨dx, ws, q1, q2, q3⟩ := q
        exact ⟨dx, ws, kp _ _ q1, q2, st.reps q3⟩
      | nst C ns zs =>
        obtain ⟨dx, ws, q1, q2, q3⟩ := q
        exact ⟨dx, ws, kp _ _ q1, q2, st.reps q3⟩
      | dic ns zs =>
        obtain ⟨ws, q1, q2, q9, q3⟩ := q
        exact ⟨ws, kp _ _ q1, q2, q9, st.reps q3⟩
    · by_cases e2 : m' = l.al.length
      · subst e2
        rw [List.getElem?_append_right (Nat.le_refl _), Nat.sub_self] at h1'
        rw [ok.mlen, List.getElem?_append_right (Nat.le_refl _), Nat.sub_self] at h2'
        cases h1'
        cases h2'
        exact hm
      · rw [List.getElem?_eq_none (by rw [List.length_append]; show l.al.length + 1 ≤ m'; omega)] at h1'
        cases h1'
  · refine List.nodup_append.mpr ⟨ok.nd, by simp, fun a ha b hb => ?_⟩
    rw [List.mem_singleton] at hb
    rw [hb]
    exact fun z => nal (by rw [← z]; exact ha)
  · rcases List.mem_append.mp h with h | h
    · exact .inl (ok.alM a h)
    · exact .inr (by simpa using h)
  · rcases h with (h | h) | h
    · exact there (ok.there b (.inl h))
    · rw [h]; exact hn
    · exact there (ok.there b (.inr h))
  · rcases h with h | h
    · exact ok.mn b h
    · rw [h]
      exact fun z => ok.there p (.inr z) hp
end
/-- C(..): the instance without fields, then __init__ over all of its parameters -/
@[simp] def newG (c : Str) (F : DF) (as : PV → List PV) (s : S) : R S PV := match F (as (.ptr s.mu.length)) (s.mu ++ [.nst c [] []]) with
  | .ok .non mu => .ok (.ptr s.mu.length) ⟨s.env, mu⟩
  | .exn e mu => .exn e ⟨s.env, mu⟩
  | _ => .bad
def HasNew (P : Program) (w : World) (K : PySem.W.Frag) (mg : Str → Option Value) (base : Heap) (CR : Addr) (c : Str) (k : Nat) (ps : List Str) (n : Nat) (ks : List Str) (gP : List PV → List PV → List PV) (F : DF) : Prop :=
  (∀ us zs : List PV, us.length = n + 1 → zs.length = ks.length → (gP us zs).length = ps.length) ∧ mg c = some (.ref (He.ga K c)) ∧
  ∃ f fd g gV, Mk K (He.ga K c) f ∧ KBn K fd ps (n + 1) ks g gV ∧ (∀ (CR : Addr) (al : List Addr) (L : Addr → Prop) (H : Hp) us zs vs ws, us.length = n + 1 → zs.length = ks.length → RepL K CR al L H us vs → RepL K CR al L H zs ws → RepL K CR al L H (gP us zs) (gV vs ws)) ∧ FJ P w K mg base CR k f fd ps F
section
variable {X : Cx} {g : Gx} {σ : St}
/-- what a new instance's __init__ is asked -/
theorem new_asks {c : Str} {F : DF} {n : Nat} {l : Lc} {s : S} {as : PV → List PV} {us : List V} {Q : VK} (ok : Sok X.K g l s σ) (x dx : Addr) (hx : l.H x = none) (hd : l.H dx = none) (hn : dx ≠ x)
    (r : ∀ l1, Step l l1 → l1.al[s.mu.length]? = some x → RepGL X.K g l1 (as (.ptr s.mu.length)) us) (hl : (as (.ptr s.mu.length)).length = n) (run : Run X.K g (newG c F as s) l σ Q) :
    spJ X.K g.CR n F us (upd (upd l.H dx (.own x)) x (.ins (He.ga X.K c) dx [])) (fun v H2 => v = .non ∧ Q (.ref x) H2) (fun c dd H => g.W c dd σ H) := by
  have kept : ∀ a o, l.H a = some o → upd (upd l.H dx (.own x)) x (.ins (He.ga X.K c) dx []) a = some o := fun a o h => by
    rw [upd_ne (ne_of_none h hx), upd_ne (ne_of_none h hd)]; exact h
  obtain ⟨st, ok1⟩ := ok.muNewO (m := .nst c [] []) (H1 := upd (upd l.H dx (.own x)) x (.ins (He.ga X.K c) dx [])) hx kept (by rw [upd_same]; simp) ⟨dx, [], upd_same, rfl, rfl⟩
  have hal : (l.al ++ [x])[s.mu.length]? = some x := by rw [← ok.mlen]; simp
  refine call_asks (l := ⟨l.al ++ [x], fun a => l.M a ∨ a = x, upd (upd l.H dx (.own x)) x (.ins (He.ga X.K c) dx [])⟩) (s := ⟨s.env, s.mu ++ [.nst c [] []]⟩) (ps := as (.ptr s.mu.length)) ok1 (r _ st hal) hl ?_
  have run : Run X.K g (newG c F as s) ⟨l.al ++ [x], fun a => l.M a ∨ a = x, upd (upd l.H dx (.own x)) x (.ins (He.ga X.K c) dx [])⟩ σ Q := Run.step run st
  unfold newG at run
  show Run X.K g (match F (as (.ptr s.mu.length)) (s.mu ++ [.nst c [] []]) with | .ok v mu => .ok v ⟨s.env, mu⟩ | .exn e mu => .exn e ⟨s.env, mu⟩ | .bad => .bad) _ σ _
  cases e : F (as (.ptr s.mu.length)) (s.mu ++ [.nst c [] []]) with
  | bad => rw [e] at run; exact run
  | exn e mu => rw [e] at run; exact run
  | ok v mu =>
    rw [e] at run
    cases v with
    | non =>
      intro l' u st' ok' rp
      have eu : u = V.non := rp
      refine ⟨eu, run l' (.ref x) st' ok' ⟨x, ?_, rfl⟩⟩
      exact st'.al s.mu.length x hal
    | _ => exact run.elim
theorem run_new {c : Str} {k n : Nat} {ps ks : List Str} {gP : List PV → List PV → List PV} {F : DF} {pins : List (Addr × Obj)} {s2 : Shared} {l2 : Lc} {st2 : S} {xs qs : List PV} {vs zs : List V} {us ws : List Value} {Q : VK}
    (h : HasNew X.prog X.w X.K X.mg X.base g.CR c k ps n ks gP F) (hr : Room (k + 1) X.A) (tk : Takes X g.W) (I2 : Inv X pins σ l2.H s2) (r : Vals vs us) (rz : Vals zs ws) (ok2 : Sok X.K g l2 st2 σ) (r1 : RepGL X.K g l2 xs vs) (r2 : RepGL X.K g l2 qs zs)
    (run : Run X.K g (if xs.length = n ∧ qs.length = ks.length then newG c F (fun p => gP (p :: xs) qs) st2 else .bad) l2 σ Q) : wpAny (model X.prog X.w) X.A (call (.ref (He.ga X.K c)) us (ks.zip ws)) (EP X pins σ Q) X.xe s2 := by
  obtain ⟨hn, hm, f, fd, g', gV, M, hb, hfl, G⟩ := h
  by_cases z : xs.length = n ∧ qs.length = ks.length
  · rw [if_pos z] at run
    have l1 : us.length = n := r.length.symm.trans (r1.length.symm.trans z.1)
    have lz : ws.length = ks.length := rz.length.symm.trans (r2.length.symm.trans z.2)
    refine makeX (E := fun c dd H => g.W c dd σ H) (vs' := fun x => gV (.ref x :: vs) zs) M G hr (passAt tk σ) I2 (fun s x hin => ?_) fun x dx hx hd hne => ?_
    · exact ⟨_, hb.to s (.ref x :: us) ws hin (by rw [List.length_cons, l1]) lz, hb.rel (.cons rfl r) rz⟩
    · exact new_asks ok2 x dx hx hd hne (fun l1 st hal => hfl _ _ _ _ (.ptr st2.mu.length :: xs) qs _ zs (by rw [List.length_cons, z.1]) z.2 ⟨.ref x, vs, rfl, ⟨x, hal, rfl⟩, st.reps r1⟩ (st.reps r2)) (hn _ _ (by rw [List.length_cons, z.1]) z.2) run
  · rw [if_neg z] at run
    exact run.elim
end
@[simp] def dNewK (c : Str) (F : DF) (n m : Nat) (gP : List PV → List PV → List PV) (da dk : DA) : DE := fun s => (da s).bind fun ps s1 => (dk s1).bind fun zs s2 => if ps.length = n ∧ zs.length = m then newG c F (fun p => gP (p :: ps) zs) s2 else .bad
section
variable {X : Cx} {g : Gx} {e : Expr} {es : List Expr} {dr dk : DA} {pos p : Pos} {c : Str} {k n : Nat} {ps : List Str} {F : DF} {gP : List PV → List PV → List PV}
/-- C(k = v, ..) -/
theorem j_newK0 {kws : List Keyword} {ks : List Str} {m : Nat} (h : HasNew X.prog X.w X.K X.mg X.base g.CR c k ps 0 ks gP F) (kp : PySem.W.keepIn X.K (.ref (He.ga X.K c)) = true) (hr : Room (k + 1) X.A) (tk : Takes X g.W) (hkw : JK X g kws dk) (hm0 : m = ks.length := by rfl) (hg : Gl X c := by rfl)
    (hall : (backToKw pos (keywordEach kws X.env)).all (·.1.isSome) = true := by rfl) (hks : (backToKw pos (keywordEach kws X.env)).filterMap (·.1) = ks := by rfl) (hdb : (c == ("__debug__" : Str)) = false := by decide)
    (hpl : ((backTo pos (starEach [] X.env)).any (·.1) || (backToKw pos (keywordEach kws X.env)).any (·.1.isNone)) = false := by rfl) :
    JE X g (.Call (.Name c p) [] kws pos) (dNewK c F 0 m gP dNil dk) := by
  subst hm0
  refine ⟨fun pins s σ H Q I q => ?_⟩
  obtain ⟨l, st, rfl, ok, q⟩ := q
  have q : Run X.K g ((dk st).bind fun zs s2 => if ([] : List PV).length = 0 ∧ zs.length = ks.length then newG c F (fun p => gP (p :: []) zs) s2 else .bad) l σ Q := q
  refine wpAny_Call_Name_kw (ld_glob I hg h.2.1 ?_ hdb)
  refine PySem.W.callWith_KW0 (h₀ := X.base) I.ok.mod.kin kp hall ?_ hpl
  refine thn (hkw.run pos pins s σ _ _ I ⟨l, st, rfl, ok, RunA.bind q⟩) fun ws s2 ⟨zs, H2, I2, rz, l2, st2, qs, e2, ok2, r2, sp2, h2⟩ => ⟨I2.kIn, ?_⟩
  subst e2
  rw [hks]
  exact run_new h hr tk I2 .nil rz ok2 (xs := []) rfl r2 h2
end
end L3
namespace L3
open PySem PySem.Spec PyProof.Rows L2
theorem looks_at {M : Model} {h : Heap} {a : Addr} {o : Obj} {T : Value} (e : h.get? a = some o) (c : o.cls = T) : PySem.W.Looks M h (typeOf (.ref a)) T := fun A Q E s k q => wpAny_typeOf_ref (k _ _ e) (by rw [c]; exact q)
section
variable {X : Cx} {pins : List (Addr × Obj)} {σ : St} {H : Hp} {s : Shared}
theorem tyx_looks {x : V} {u t : Value} (I : Inv X pins σ H s) (rx : RelV x u) (ty : TyX X.K H x t) : PySem.W.Looks (model X.prog X.w) s.heap (typeOf u) t := by
  cases ty with
  | base b =>
    cases b with
    | non => cases (show u = Value.none from rx); exact PySem.W.Looks.of_pure rfl
    | bl y => cases (show u = Value.bool y from rx); exact PySem.W.Looks.of_pure rfl
    | int i => obtain ⟨t, q⟩ := (show ∃ t, u = Value.int i t from rx); cases q; exact PySem.W.Looks.of_pure rfl
    | str y => obtain ⟨t, q⟩ := (show ∃ t, u = Value.str y t from rx); cases q; exact PySem.W.Looks.of_pure rfl
    | flt y => obtain ⟨t, q⟩ := (show ∃ t, u = Value.float y t from rx); cases q; exact PySem.W.Looks.of_pure rfl
    | @lst a xs ea =>
      cases (show u = Value.ref a from rx)
      obtain ⟨_, _, n, _, h1⟩ := (show ObjOk X.prog X.w H s.heap a (.lst xs) from I.hok a _ ea)
      exact looks_at h1 rfl
    | @frz a ob xs ea =>
      cases (show u = Value.ref a from rx)
      obtain ⟨_, _, _, n, _, h1⟩ := (show ObjOk X.prog X.w H s.heap a (.frz ob (.lst xs)) from I.hok a _ ea)
      exact looks_at h1 rfl
    | @tup a xs ea =>
      cases (show u = Value.ref a from rx)
      obtain ⟨_, _, _, o, h1, h2, _⟩ := (show ObjOk X.prog X.w H s.heap a (.tup xs) from I.hok a _ ea)
      exact looks_at h1 h2
    | @dK a kvs ea =>
      cases (show u = Value.ref a from rx)
      obtain ⟨_, _, vs, _, o, es, ep, h1, h2, _⟩ := (show ObjOk X.prog X.w H s.heap a (.dK kvs) from I.hok a _ ea)
      exact looks_at h1 h2.1
    | @dT a kvs ea =>
      cases (show u = Value.ref a from rx)
      obtain ⟨_, _, xs, _, o, es, ep, h1, h2, _⟩ := (show ObjOk X.prog X.w H s.heap a (.dT kvs) from I.hok a _ ea)
      exact looks_at h1 h2.1
    | @ins a C dx fs ea cl ha hn htk hm =>
      cases (show u = Value.ref a from rx)
      obtain ⟨mA, O, _⟩ := ins_get I.hok ea
      obtain ⟨od, J, _⟩ := O.look
      exact J.type
  | byt y => obtain ⟨t, q⟩ := (show ∃ t, u = Value.bytes y t from rx); cases q; exact PySem.W.Looks.of_pure rfl
  | @set a S n ea =>
    cases (show u = Value.ref a from rx)
    obtain ⟨o, _, _, _, e, ex, _⟩ := I.hok a _ ea
    exact looks_at e ex.1
  | @kList a o e c => cases (show u = Value.ref a from rx); exact looks_at (I.kIn a o e) c
  | @kTuple a o e c => cases (show u = Value.ref a from rx); exact looks_at (I.kIn a o e) c
  | @kDict a o e c => cases (show u = Value.ref a from rx); exact looks_at (I.kIn a o e) c
  | @fTuple a ob xs ea =>
    cases (show u = Value.ref a from rx)
    obtain ⟨_, _, _, _, o, h1, h2, _⟩ := (show ObjOk X.prog X.w H s.heap a (.frz ob (.tup xs)) from I.hok a _ ea)
    exact looks_at h1 h2
  | @fDict a ob kvs ea =>
    cases (show u = Value.ref a from rx)
    obtain ⟨_, _, _, vs, _, o, es, ep, h1, h2, _⟩ := (show ObjOk X.prog X.w H s.heap a (.frz ob (.dK kvs)) from I.hok a _ ea)
    exact looks_at h1 h2.1
end
def bNm (yes no : List Str) : TP → Option Bool
  | .cls _ => none | .nam c => if c ∈ yes then some true else if c ∈ no then some false else none | _ => some false
@[simp] theorem bNm_nam {yes no : List Str} {c : Str} : bNm yes no (.nam c) = if c ∈ yes then some true else if c ∈ no then some false else none := rfl
/-- the classes cs are known to isinstance -/
structure CiN (K : PySem.W.Frag) (CR : Addr) (cs : List Str) : Prop where
  kk : KIsi K
  rt : ClsI K CR
  nm : ∀ c ∈ cs, ClsI K (He.ga K c)
theorem ciN_ok {K : PySem.W.Frag} {CR : Addr} {cs : List Str} (k : KIsi K) (r : ClsI K CR) (n : ∀ c ∈ cs, Cls K (He.ga K c)) (h : ciNB cs K = true) : CiN K CR cs := ⟨k, r, fun c hc => clsI_ok (n c hc) (List.all_eq_true.mp h c hc)⟩
theorem isN_ok {K : PySem.W.Frag} {c : Str} {cs yes no : List Str} (T : CiN K (He.ga K "Ratio") cs) (hy : ∀ d ∈ yes, d ∈ cs) (hn : ∀ d ∈ no, d ∈ cs) (h : isNB c yes no K = true) : IsiK K (He.ga K "Ratio") (.ref (He.ga K c)) (bNm yes no) := by
  obtain ⟨h1, h⟩ := He.ba h
  obtain ⟨h2, h⟩ := He.ba h
  obtain ⟨h3, h4⟩ := He.ba h
  have h1' : ∀ t ∈ ts7, PySem.W.kitOne K (.type t) (.ref (He.ga K c)) = some false := fun t ht => of_decide_eq_true (List.all_eq_true.mp h1 t ht)
  have cc : ∀ {tp : TP} {C : Addr}, (∀ D, tp ≠ .cls D) → (∀ D, tp ≠ .nam D) → (tp = .cls C ∨ (tp = .rat ∧ C = He.ga K "Ratio") ∨ ∃ c, tp = .nam c ∧ C = He.ga K c) → ClsI K C := fun n n2 z => by
    rcases z with z | ⟨_, z⟩ | ⟨_, z, _⟩
    · exact absurd z (n _)
    · rw [z]; exact T.rt
    · exact absurd z (n2 _)
  intro tp r e
  cases tp with
  | cls C => cases e
  | nam d =>
    rw [bNm_nam] at e
    by_cases hd : d ∈ yes
    · rw [if_pos hd] at e
      cases e
      refine ⟨of_decide_eq_true (List.all_eq_true.mp h3 d hd), fun C z => ?_⟩
      rcases z with z | ⟨z, _⟩ | ⟨d', z, q⟩
      · cases z
      · cases z
      · cases z; rw [q]; exact T.nm d (hy d hd)
    · rw [if_neg hd] at e
      by_cases hd2 : d ∈ no
      · rw [if_pos hd2] at e
        cases e
        refine ⟨of_decide_eq_true (List.all_eq_true.mp h4 d hd2), fun C z => ?_⟩
        rcases z with z | ⟨z, _⟩ | ⟨d', z, q⟩
        · cases z
        · cases z
        · cases z; rw [q]; exact T.nm d (hn d hd2)
      · rw [if_neg hd2] at e
        cases e
  | rat => cases e; exact ⟨of_decide_eq_true h2, fun C z => cc (by intro D y; cases y) (by intro D y; cases y) z⟩
  | _ => cases e; exact ⟨h1' _ (by simp [ts7]), fun C z => cc (by intro D y; cases y) (by intro D y; cases y) z⟩
def okT (cs : List Str) : TP → Bool
  | .cls _ => false | .nam c => decide (c ∈ cs) | _ => true
structure CmpN (K : PySem.W.Frag) (CR C f : Addr) (cs : List Str) : Prop where
  ne : PySem.W.findIn K (.ref C) "__ne__" = some (some (.builtin "object.__ne__"))
  mr : PySem.W.mroIn K C (.type "object") = some true
  at_ : PySem.W.findIn K (.ref C) "__eq__" = some (some (.ref f))
  fn : PySem.W.isFn K (.ref f) = true
  n1 : ∀ t, okT cs t = true → PySem.W.notFirst K C (t.val K CR) = true
theorem cmpN_ok {K : PySem.W.Frag} {c : Str} {cs : List Str} (h : cmpNB c cs K = true) : CmpN K (He.ga K "Ratio") (He.ga K c) (He.ma K (He.ga K c) "__eq__") cs := by
  obtain ⟨h1, h⟩ := He.ba h
  obtain ⟨h2, h⟩ := He.ba h
  obtain ⟨h3, h⟩ := He.ba h
  obtain ⟨h4, h⟩ := He.ba h
  obtain ⟨h5, h⟩ := He.ba h
  obtain ⟨h6, h7⟩ := He.ba h
  refine ⟨He.eqO_ok h1, of_decide_eq_true h2, He.eqO_ok h3, h4, fun t ht => ?_⟩
  cases t with
  | cls C => cases ht
  | nam d => exact List.all_eq_true.mp h7 d (of_decide_eq_true ht)
  | rat => exact h6
  | _ => exact List.all_eq_true.mp h5 _ (by simp [ts7])
/-- what stands for __eq__ of each class -/
def CTab (X : Cx) (g : Gx) (k : Nat) (cs : List Str) (tb : List (Str × DF)) : Prop := ∀ c F, tb.lookup c = some F → ∃ f, CmpN X.K g.CR (He.ga X.K c) f cs ∧ At X.prog X.w X.K X.mg X.base g.CR f k ["self", "other"] F
theorem ct_nil {X : Cx} {g : Gx} {k : Nat} {cs : List Str} : CTab X g k cs [] := fun c F e => by cases e
theorem ct_cons {X : Cx} {g : Gx} {k : Nat} {cs : List Str} {c : Str} {f : Addr} {F : DF} {tb : List (Str × DF)} (h : CmpN X.K g.CR (He.ga X.K c) f cs) (a : At X.prog X.w X.K X.mg X.base g.CR f k ["self", "other"] F) (r : CTab X g k cs tb) : CTab X g k cs ((c, F) :: tb) := fun c' F' e => by
  rw [List.lookup_cons] at e
  cases z : (c' == c) with
  | true =>
    rw [z] at e
    cases e
    rw [eq_of_beq z]
    exact ⟨f, h, a⟩
  | false =>
    rw [z] at e
    exact r c' F' e
/-- == at an instance of a class in tb on the left, else h -/
def gEqN (cs : List Str) (tb : List (Str × DF)) (h : PV → PV → S → R S PV) : PV → PV → S → R S PV := fun p q s => match insN s.mu p with
  | some (c, _, _) => (match tb.lookup c, tpOf s.mu q with
    | some F, some t => if okT cs t then fMt 2 F [p, q] s else .bad
    | _, _ => .bad)
  | none => h p q s
section
variable {X : Cx} {g : Gx} {k : Nat}
theorem OJ.eqN {cs : List Str} {tb : List (Str × DF)} {h : PV → PV → S → R S PV} (C0 : CiN X.K g.CR cs) (T : CTab X g k cs tb) (hr : Room k X.A) (tk : Takes X g.W) (ho : OJ X g (compareOp .Eq) h) : OJ X g (compareOp .Eq) (gEqN cs tb h) := by
  intro pins s σ x y v u Q l st p q I rx ry ok rp rq run
  unfold gEqN at run
  cases e1 : insN st.mu p with
  | none =>
    rw [e1] at run
    exact ho pins s σ x y v u Q l st p q I rx ry ok rp rq run
  | some z =>
    obtain ⟨c, ns, xs⟩ := z
    rw [e1] at run
    simp only at run
    cases e2 : tb.lookup c with
    | none => rw [e2] at run; exact run.elim
    | some F =>
      rw [e2] at run
      cases e3 : tpOf st.mu q with
      | none => rw [e3] at run; exact run.elim
      | some t =>
        rw [e3] at run
        simp only at run
        cases e4 : okT cs t with
        | false => rw [e4] at run; exact run.elim
        | true =>
          rw [e4, if_pos rfl] at run
          obtain ⟨n, a, dx, vs, rfl, hmu, hal, rfl, hH, hlen, hrs⟩ := rep_nst ok rp e1
          cases (show v = .ref a from rx)
          obtain ⟨mA, O, _⟩ := ins_get I.hok hH
          obtain ⟨od, J, _⟩ := O.look
          obtain ⟨m, hF⟩ := I.fr
          obtain ⟨f, B, hA⟩ := T c F e2
          have hb := tyx_looks I ry (tp_ok C0.kk ok rq e3 fun C z => by
            rcases z with z | ⟨_, z⟩ | ⟨d, z, z2⟩
            · rw [z] at e4; cases e4
            · rw [z]; exact C0.rt
            · rw [z] at e4; rw [z2]; exact C0.nm d (of_decide_eq_true e4))
          rw [show compareOp .Eq = richCompare .Eq from rfl]
          exact PySem.W.cmp_K hr.units0 hF I.ok.mod.kin J hb (B.n1 t e4) B.at_ B.fn (wpAny_mono ((hA.jr hr tk 2).cj pins s σ [.ref a, y] [.ref a, u] Q l st [.ptr n, q] I (.cons rfl (.cons ry .nil)) ok ⟨_, _, rfl, rp, _, _, rfl, rq, rfl⟩ run) (fun _ _ z => back_of z) fun _ _ z => z)
end
@[simp] def dCallN (tb : List (Str × (List PV → S → R S PV))) (d : DE) (dr : DA) : DE := fun s => (d s).bind fun p s1 => match p with
  | .ptr n => (dr s1).bind fun ps s2 => (match insN s2.mu (.ptr n) with
    | some (c, _, _) => (match tb.lookup c with
      | some fn => fn (.ptr n :: ps) s2
      | none => .bad)
    | none => .bad)
  | _ => .bad
end L3
namespace L3
open PySem PySem.Spec PyProof.Rows L2
@[simp] def fMk (n m : Nat) (gP : List PV → List PV → List PV) (F : DF) : List PV → List PV → S → R S PV := fun us zs s => if us.length = n ∧ zs.length = m then fnS F (gP us zs) s else .bad
@[simp] def dMethNK (m : Str) (tb : List (Str × (List PV → List PV → S → R S PV))) (d : DE) (dr dk : DA) : DE := fun s => (d s).bind fun p s1 => match insN s1.mu p with
  | some (c, ns, _) => (match tb.lookup c with
    | some fn => if m ∈ ns then .bad else (dr s1).bind fun ps s2 => (dk s2).bind fun qs s3 => fn (p :: ps) qs s3
    | none => .bad)
  | none => .bad
@[simp] def dCallNK (tb : List (Str × (List PV → List PV → S → R S PV))) (d : DE) (dr dk : DA) : DE := fun s => (d s).bind fun p s1 => match p with
  | .ptr n => (dr s1).bind fun ps s2 => (dk s2).bind fun qs s3 => (match insN s3.mu (.ptr n) with
    | some (c, _, _) => (match tb.lookup c with
      | some fn => fn (.ptr n :: ps) qs s3
      | none => .bad)
    | none => .bad)
  | _ => .bad
end L3
namespace L3
open PySem PySem.Spec PyProof.Rows L2
@[simp] def gFldN (cs : List Str) (f : Str) (ob : DE) : DG := fun v s => match ob s with
  | .ok o s2 => (match o with
    | .ptr n => (match s2.mu[n]? with
      | some (.nst c ns xs) => if c ∈ cs ∧ ns.length < 1000 then .ok () ⟨s2.env, s2.mu.set n (.nst c (putN f ns) (putV f v ns xs))⟩ else .bad
      | _ => .bad)
    | _ => .bad)
  | _ => .bad
end L3
namespace L3
open PySem PySem.Spec PyProof.Rows L2
theorem propNB_ok {c m : Str} {K : PySem.W.Frag} (h : propNB c m K = true) : PropOf K (He.ga K c) m (He.ma K (He.ga K c) m) (getAdN c m K) := by
  obtain ⟨h1, h⟩ := He.ba h
  obtain ⟨h2, h⟩ := He.ba h
  obtain ⟨h3, h4⟩ := He.ba h
  refine ⟨He.eqO_ok h1, He.eqO_ok h2, of_decide_eq_true h3, ?_⟩
  unfold getAdN
  split at h4
  · rename_i f r e
    exact ⟨r, by rw [e]⟩
  · cases h4
def HasPN (P : Program) (w : World) (K : PySem.W.Frag) (mg : Str → Option Value) (base : Heap) (CR : Addr) (c fl : Str) (k : Nat) (F : DF) : Prop := Cls K (He.ga K c) ∧ ∃ pA gA fd, PropOf K (He.ga K c) fl pA gA ∧ FJ P w K mg base CR k gA fd ["self"] F ∧ Binds K fd ["self"] []
def HasMN (P : Program) (w : World) (K : PySem.W.Frag) (mg : Str → Option Value) (base : Heap) (CR : Addr) (c m : Str) (k : Nat) (ps : List Str) (F : DF) : Prop := Cls K (He.ga K c) ∧ ∃ f, Meth K (He.ga K c) m f ∧ At P w K mg base CR f k ps F
def HasEN (P : Program) (w : World) (K : PySem.W.Frag) (mg : Str → Option Value) (base : Heap) (CR : Addr) (c : Str) (cs : List Str) (k : Nat) (F : DF) : Prop := ∃ f, CmpN K CR (He.ga K c) f cs ∧ At P w K mg base CR f k ["self", "other"] F
theorem HasNew.kp {P : Program} {w : World} {K : PySem.W.Frag} {mg : Str → Option Value} {base : Heap} {CR : Addr} {c : Str} {k n : Nat} {ps ks : List Str} {gP : List PV → List PV → List PV} {F : DF} (h : HasNew P w K mg base CR c k ps n ks gP F) : PySem.W.keepIn K (.ref (He.ga K c)) = true :=
  let ⟨_, _, _, _, _, _, M, _⟩ := h
  M.kp
/-- C is known by the class's name -/
def HasIs (K : PySem.W.Frag) (mg : Str → Option Value) (CR : Addr) (c : Str) (yes no : List Str) : Prop := mg c = some (.ref (He.ga K c)) ∧ IsiK K CR (.ref (He.ga K c)) (bNm yes no)
section
variable {X : Cx} {g : Gx} {a e o : Expr} {es : List Expr} {da dob : DE} {dr dk : DA} {pos p apos : Pos} {c m fl : Str} {k n : Nat} {ps ks cs : List Str} {F : DF} {gP : List PV → List PV → List PV}
theorem pt_one (h : HasPN X.prog X.w X.K X.mg X.base g.CR c fl k F) : PTab X g k fl [(c, F)] := fun c' F' e => by
  rw [List.lookup_cons] at e
  cases z : (c' == c) with
  | true =>
    rw [z] at e
    cases e
    rw [eq_of_beq z]
    exact h
  | false =>
    rw [z] at e
    cases e
theorem mt_h {tb : List (Str × (List PV → S → R S PV))} (h : HasMN X.prog X.w X.K X.mg X.base g.CR c m k ps F) (hr : Room k X.A) (tk : Takes X g.W) (r : MTab X g m tb) (hn : n = ps.length := by rfl) : MTab X g m ((c, fMt n F) :: tb) :=
  let ⟨T, _, hm, hA⟩ := h
  mt_cons T hm (hA.jr hr tk n hn) r
theorem ct_h {tb : List (Str × DF)} (h : HasEN X.prog X.w X.K X.mg X.base g.CR c cs k F) (r : CTab X g k cs tb) : CTab X g k cs ((c, F) :: tb) :=
  let ⟨_, hC, hA⟩ := h
  ct_cons hC hA r
/-- isinstance(e, C), C an own class -/
theorem j_isN {yes no : List Str} (kk : KIsi X.K) (h : HasIs X.K X.mg g.CR c yes no) (hm : X.mg "isinstance" = none) (ha : JE X g a da) (hg : Gl X "isinstance" := by rfl) (hg2 : Gl X c := by rfl) (hdb : (c == ("__debug__" : Str)) = false := by decide)
    (h1 : starEach [a, .Name c p] X.env = (false, eval a X.env) :: starEach [.Name c p] X.env := by rfl) (h2 : starEach [.Name c p] X.env = (false, eval (.Name c p) X.env) :: starEach [] X.env := by rfl) (hpl : (backTo pos (starEach [.Name c p] X.env)).any (·.1) = false := by rfl) {q : Pos} :
    JE X g (.Call (.Name "isinstance" q) [a, .Name c p] [] pos) (dUn (fIsi (bNm yes no)) da) := j_isi kk h.2 (.own _) ha (pe_glob hg2 h.1 rfl hdb) hg hm h1 h2 hpl
end
end L3
namespace LD
end LD
namespace L3
open PySem PySem.Spec PyProof.Rows L2
end L3
namespace L3
open PySem PySem.Spec PyProof.Rows L2
@[simp] def dBorF (is : List Nat) (d : DL) : DL := fun s => if ownIn is s.env = true then (match d (frozS is s) with
  | .ok v s1 => if flatL v = true ∧ flatMs s1.mu = true then .ok v ⟨s.env, s1.mu⟩ else .bad
  | _ => .bad) else .bad
end L3
namespace L3
open PySem PySem.Spec PyProof.Rows L2
end L3
namespace L3
open PySem PySem.Spec PyProof.Rows L2
end L3
namespace LD
end LD
namespace L3
open PySem PySem.Spec PyProof.Rows L2
end L3
namespace LD
end LD
namespace LD
open PySem L3
end LD
namespace LD
end LD
namespace L3
open PySem PySem.Spec PyProof.Rows L2
@[simp] def dRev (d : DE) : DE := fun s => (d s).bind fun v s1 => match v with
  | .lst xs => .ok (.lst xs.reverse) s1
  | _ => .bad
end L3
namespace LD
end LD
namespace L3
open PySem PySem.Spec PyProof.Rows L2 PySem.Calls
/-- the truth of a value, ratios by their own __bool__ -/
def truR (F : DF) : PV → S → R S Bool := fun v s => match v with
  | .rat a => (fMt 1 F [.rat a] s).bind fun w s2 => match w with
    | .bl b => .ok b s2
    | _ => .bad
  | v => match truP v with
    | some b => .ok b s
    | none => .bad
@[simp] def dTruR (F : DF) (d : DE) : DT := fun s => (d s).bind (truR F)
end L3
namespace L3
open PySem PySem.Spec PyProof.Rows L2
@[simp] def dFmt (d : DE) : DE := fun s => (d s).bind fun v s1 => match v with
  | .str y => if y.length ≤ 16777216 then .ok (.str y) s1 else .bad
  | .int i => if ib i ≤ 1900 then .ok (.str (Str.ofString (toString i))) s1 else .bad
  | _ => .bad
@[simp] def dJs : List DE → Str → DE
  | [], acc => fun s => .ok (.str acc) s
  | d :: ds, acc => fun s => (d s).bind fun v s1 => match v with
    | .str y => if (acc ++ y).length ≤ 16777216 then dJs ds (acc ++ y) s1 else .bad
    | _ => .bad
end L3
namespace L3
open PySem PySem.Spec PyProof.Rows L2
end L3
namespace L3
open PySem PySem.Spec PyProof.Rows L2
@[simp] def okX : TP → Bool
  | .tup => true | .lst => true | .dct => true | _ => false
end L3
namespace L3
open PySem PySem.Spec PyProof.Rows L2
end L3
namespace L3
open PySem PySem.Spec PyProof.Rows L2
/-- what a comparison keeps -/
def Kp (X : Cx) (g : Gx) (pins : List (Addr × Obj)) (σ : St) (st : S) (l : Lc) (s' : Shared) : Prop := ∃ l' : Lc, Step l l' ∧ Inv X pins σ l'.H s' ∧ Sok X.K g l' st σ
section
variable {X : Cx} {g : Gx} {pins : List (Addr × Obj)} {σ : St} {st : S} {l : Lc} {s : Shared} {A : Around} {n : Nat} {xs ys : List PV} {a b : Addr}
theorem vals_item {vs : List V} {its : List Value} {i : Nat} {v : V} (r : Vals vs its) (h : vs[i]? = some v) (h1 : i < its.toArray.size) : RelV v its.toArray[i] := by
  obtain ⟨u, hu, ru⟩ := r.get h
  have h1' : i < its.length := by simpa using h1
  rw [List.getElem?_eq_getElem h1'] at hu
  have e := Option.some.inj hu
  simpa [e] using ru
end
end L3
namespace L3
open PySem PySem.Spec PyProof.Rows L2
section
variable {X : Cx} {g : Gx} {pins : List (Addr × Obj)} {σ : St} {st : S} {l : Lc} {s : Shared} {A : Around} {n : Nat} {xs ys : List PV} {a b : Addr}
theorem tup_here (I : Inv X pins σ l.H s) (rp : RepG X.K g l (.tup xs) (.ref a)) : ∃ (vs : List V) (its : List Value), RepGL X.K g l xs vs ∧ Vals vs its ∧ s.heap.IsTuple a its.toArray := by
  obtain ⟨_, vs, e, ha, ra⟩ := rp
  cases e
  obtain ⟨its, rv, ⟨o, ho, hc, n, hd⟩, _⟩ := I.tuple (SqT.of2 ha)
  exact ⟨vs, its, ra, rv, o, ho, hc, n, hd⟩
end
end L3
namespace LD
end LD
namespace L3
open PySem PySem.Spec PyProof.Rows L2
end L3
namespace L3
open PySem PySem.Spec PyProof.Rows L2
@[simp] def catO (i : Nat) (q : PV) (s : S) : R S (List PV) := match s.env[i]?, q with
  | some (some (.own xs)), .lst ys => if xs.length + ys.length ≤ 16777216 then .ok (xs ++ ys) s else .bad
  | _, _ => .bad
@[simp] def dCatO (i : Nat) (db : DE) : DL := fun s => match s.env[i]? with
  | some (some (.own _)) => (db s).bind fun q s2 => catO i q s2
  | _ => .bad
end L3
namespace LD
end LD
namespace LD
end LD
namespace L3
open PySem PySem.Spec PyProof.Rows L2
@[simp] def dExt (i : Nat) (d : DE) : DE := fun s => match lstAt i s with
  | some _ => (d s).bind fun v s1 => (match lstAt i s1, v with
    | some (xs, k), .lst ys => if xs.length + ys.length ≤ 16777216 then .ok .non (k (xs ++ ys)) else .bad
    | _, _ => .bad)
  | none => .bad
end L3
namespace L3
open PySem PySem.Spec PyProof.Rows L2
def rangeC (lo c : Int) (n : Nat) : List PV := (List.range n).map fun (k : Nat) => .int (lo + (k : Int) * c)
def numC (i j c : Int) : Nat := if i < j then ((j - i - 1) / c + 1).toNat else 0
@[simp] def iRange3 (d : DA) : DI := fun s => (d s).bind fun vs s1 => match vs with
  | [.int i, .int j, .int c] => if 0 ≤ i ∧ i ≤ 2 ^ 40 ∧ -(2 ^ 40) ≤ j ∧ j ≤ 2 ^ 40 ∧ 1 ≤ c ∧ c ≤ 1000 then .ok (rangeC i c (numC i j c)) s1 else .bad
  | _ => .bad
end L3
namespace LD
end LD
namespace L3
open PySem PySem.Spec PyProof.Rows L2
/-- the values given, as the parameters hold them: those left over as a new tuple -/
def starP (n : Nat) (ps : List PV) : List PV := ps.take n ++ [.tup (ps.drop n)]
/-- a binding that makes the tuple of what is left over -/
def BindsV (s : Shared) (fd : FuncData) (args : Args) (rest : List Value) (binds : Value → List (Str × Value)) : Prop :=
  ∀ (M : Model) (A : Around) (Ex : Value → Shared → Prop) (Q : List (Str × Value) → Shared → Prop), wpAny M A (newTuple rest >>= fun t => pure (binds t)) Q Ex s → wpAny M A (bindArgs fd args) Q Ex s
/-- the promise of such a def -/
structure FJV (P : Program) (w : World) (K : PySem.W.Frag) (mg : Str → Option Value) (base : Heap) (Cr : Addr) (k : Nat) (f : Addr) (fd : FuncData) (ps : List Str) (pv : Str) (F : DF) : Prop where
  run : ∀ (A : Around) (outer : List Env) (s : Shared) (H : Hp) (args : Args) (us rest : List Value) (vs rvs : List V) (Q : VK) (E : XK), Room k A → Env0 P w K mg base A outer s H → BindsV s fd args rest (fun t => ps.zip us ++ [(pv, t)]) → Vals vs us → Vals rvs rest →
    vs.length = ps.length → rvs.length ≤ sizeLine → (∀ p, H p = none → spJ K Cr (ps.length + 1) F (vs ++ [.ref p]) (upd H p (.tup rvs)) Q E) → codeAny (model P w) A (.call (.ref f) args) (CR (L2.CX P w) outer P w H s Q E) s
section
variable {P : Program} {w : World} {K : PySem.W.Frag} {mg : Str → Option Value} {base : Heap} {Cr : Addr} {x qual : Str} {params : Arguments} {body : List Stmt} {scope : Scope} {dvs : List V} {kws : List (Str × V)} {f : Addr} {fd : FuncData} {N ps : List Str} {pv : Str} {k : Nat} {d : DS}
theorem jf_fnV {qs : List Str} (F : FunD K x qual params body scope dvs kws f fd) (S : FnScope N qs scope) (hb : ∀ (cdv : Value) (A : Around) (outer : List Env) (s : Shared) (H : Hp) (E : XK) (Nn : Addr → Prop), Room k (A.deeper (envOfC qual scope s.heap.objs.size f cdv)) →
      JSs (cxOf (L2.CX P w) P w K mg base N qual scope f cdv A outer s H E) ⟨Cr, Nn, fun c dd _ H => E c dd H⟩ body d) (hqs : qs = ps ++ [pv] := by rfl) : FJV P w K mg base Cr (k + 1) f fd ps pv (runBody N.length d) := by
  subst hqs
  refine ⟨fun A outer s H args us rest vs rvs Q E hr e0 hbd r rr hl hz h => ?_⟩
  obtain ⟨oc, od, dV, kV, doc, pm, an, cdv, ct, osl, rfl, lk, hcd, _, _⟩ := F.ex
  have hn : H s.heap.objs.size = none := e0.hok.fresh (Nat.le_refl _)
  have hl2 : rest.length ≤ sizeLine := by rw [← rr.length]; exact hz
  have hlu : ps.length = us.length := by rw [← r.length, hl]
  refine StX.run_bnd (CX := L2.CX P w) lk hcd S hr.rm e0 (G := fun xs H2 => ∃ p, H p = none ∧ xs = vs ++ [V.ref p] ∧ H2 = upd H p (.tup rvs)) (fun A' Ex Q' hh => hbd _ _ _ _ ?_) fun s2 H2 xs ⟨p, hp, ex, eH⟩ _ => ?_
  · refine wpAny_bind (wpAny_newTuple (wpAny_pure ?_) hl2)
    have new : ObjOk P w (upd H s.heap.objs.size (.tup rvs)) (s.heap.push ({ cls := .type "tuple", data := .seq rest.toArray } : Obj)) s.heap.objs.size (.tup rvs) := ⟨hz, rest, rr, ⟨_, Heap.get?_push_size _ rfl, rfl, _, rfl⟩⟩
    have un := StX.un_laid (fs := frs outer) (s := s) (o := ({ cls := .type "tuple", data := .seq rest.toArray } : Obj)) (u := .tup rvs) hn
    have z := hh _ _ (vs ++ [V.ref s.heap.objs.size]) (us ++ [Value.ref s.heap.objs.size]) (StX.env0_laid e0 new) un rfl (fun e s' => StX.cxUp outer s H _ _ E e s' un (fun b o q => Heap.get?_push_of_some _ q) rfl) (r.append (.cons rfl .nil))
      (by rw [List.length_append, List.length_append, hl] <;> rfl) ⟨_, hn, rfl, rfl⟩
    rw [List.zip_append hlu] at z
    exact z
  · subst ex eH
    have hlen : ps.length + 1 = (ps ++ [pv]).length := by rw [List.length_append] <;> rfl
    have hp := h p hp
    rw [hlen] at hp
    exact body_asks S (fun Nn => hb cdv A outer s2 _ E Nn (hr.deeper _)) hp
end
/-- what is left over makes a new tuple, then the call -/
theorem star_asks {K : PySem.W.Frag} {g : Gx} {l : Lc} {s : S} {σ : St} {ps rs : List PV} {us rvs : List V} {Q : VK} {F : DF} {n : Nat} (ok : Sok K g l s σ) (r : RepGL K g l ps us) (rr : RepGL K g l rs rvs) (hn : ps.length = n) (run : Run K g (fnS F (ps ++ [.tup rs]) s) l σ Q) :
    ∀ p, l.H p = none → spJ K g.CR (n + 1) F (us ++ [.ref p]) (upd l.H p (.tup rvs)) Q (fun c dd H => g.W c dd σ H) := fun p hp => by
  have st : Step l ⟨l.al, l.M, upd l.H p (.tup rvs)⟩ := Step.alloc hp
  have ok2 : Sok K g ⟨l.al, l.M, upd l.H p (.tup rvs)⟩ s σ := ok.alloc hp
  have r2 : RepGL K g ⟨l.al, l.M, upd l.H p (.tup rvs)⟩ (ps ++ [.tup rs]) (us ++ [.ref p]) := (st.reps r).append ⟨.ref p, [], rfl, ⟨p, rvs, rfl, .inl ⟨ok.fresh hp, .inl upd_same⟩, st.reps rr⟩, rfl⟩
  exact call_asks (l := ⟨l.al, l.M, upd l.H p (.tup rvs)⟩) ok2 r2 (by rw [List.length_append, hn] <;> rfl) (Run.step run st)
@[simp] def fMtS (n : Nat) (F : DF) : List PV → S → R S PV := fun qs s => if n ≤ qs.length ∧ qs.length ≤ 16777216 then fnS F (starP n qs) s else .bad
section
variable {X : Cx} {g : Gx} {k : Nat} {f : Addr} {fd : FuncData} {ps : List Str} {pv : Str} {F : DF}
theorem vals_split {vs : List V} {us : List Value} (n : Nat) (h : Vals vs us) : Vals (vs.take n) (us.take n) ∧ Vals (vs.drop n) (us.drop n) := by
  induction h generalizing n with
  | nil => rw [List.take_nil, List.take_nil, List.drop_nil, List.drop_nil]; exact ⟨.nil, .nil⟩
  | cons a r ih =>
    cases n with
    | zero => exact ⟨.nil, .cons a r⟩
    | succ n => exact ⟨.cons a (ih n).1, (ih n).2⟩
/-- n fixed values, then any -/
def BnV (K : PySem.W.Frag) (fd : FuncData) (ps : List Str) (pv : Str) : Prop := ∀ (s : Shared) (us rest : List Value), K.In s.heap → us.length = ps.length → BindsV s fd ⟨us ++ rest, []⟩ rest (fun t => ps.zip us ++ [(pv, t)])
theorem ka_fnV (G : FJV X.prog X.w X.K X.mg X.base g.CR k f fd ps pv F) (hb : BnV X.K fd ps pv) (tk : Takes X g.W) (n : Nat) (hn : n = ps.length := by rfl) : KA X g k f (fMtS n F) := by
  subst hn
  intro A sb pins s σ xs vs Q l st qs I rv ok rp run
  by_cases z : ps.length ≤ qs.length ∧ qs.length ≤ 16777216
  · have run : Run X.K g (if ps.length ≤ qs.length ∧ qs.length ≤ 16777216 then fnS F (starP ps.length qs) st else .bad) l σ Q := run
    rw [if_pos z] at run
    have r1 : RepGL X.K g l (qs.take ps.length) (xs.take ps.length) := RepL.take _ rp
    have r2 : RepGL X.K g l (qs.drop ps.length) (xs.drop ps.length) := RepL.drop _ rp
    have h := star_asks (n := ps.length) ok r1 r2 (by rw [List.length_take]; omega) run
    have hx : xs.length = qs.length := rp.length.symm
    have hv : vs.length = qs.length := rv.length.symm.trans hx
    obtain ⟨v1, v2⟩ := vals_split ps.length rv
    have e0 : Env0 X.prog X.w X.K X.mg X.base A X.stack s l.H := by
      have e := I.env0
      exact ⟨by rw [sb.fr]; exact e.frames, e.mod, e.bs, e.bsz, e.funs, e.frf, e.hok, e.bare⟩
    have bd := hb s (vs.take ps.length) (vs.drop ps.length) I.kIn (by rw [List.length_take]; omega)
    rw [List.take_append_drop] at bd
    refine codeAny_mono (G.run A X.stack s l.H ⟨vs, []⟩ _ _ _ _ Q (fun c dd H => g.W c dd σ H) sb.room e0 bd v1 v2 (by rw [List.length_take]; omega) (by rw [List.length_drop, line_eq]; omega) h) fun r s' hq => ?_
    cases r with
    | error e => exact passAt tk σ pins l.H s e s' I hq
    | ok fl =>
      cases fl with
      | ret u => exact I.after hq
      | next => exact False.elim hq
      | brk => exact False.elim hq
      | cont => exact False.elim hq
  · have run : Run X.K g (if ps.length ≤ qs.length ∧ qs.length ≤ 16777216 then fnS F (starP ps.length qs) st else .bad) l σ Q := run
    rw [if_neg z] at run
    exact run.elim
end
/-- a method with *names: self alone stands ahead -/
def HasMV (P : Program) (w : World) (K : PySem.W.Frag) (mg : Str → Option Value) (base : Heap) (CR : Addr) (c m : Str) (k : Nat) (ps : List Str) (pv : Str) (F : DF) : Prop := Cls K (He.ga K c) ∧ ∃ f fd, Meth K (He.ga K c) m f ∧ FJV P w K mg base CR k f fd ps pv F ∧ BnV K fd ps pv
section
variable {X : Cx} {g : Gx} {k n : Nat} {c m pv : Str} {ps : List Str} {F : DF}
theorem mt_hV {tb : List (Str × (List PV → S → R S PV))} (h : HasMV X.prog X.w X.K X.mg X.base g.CR c m k ps pv F) (hr : Room k X.A) (tk : Takes X g.W) (r : MTab X g m tb) (hn : n = ps.length := by rfl) : MTab X g m ((c, fMtS n F) :: tb) :=
  let ⟨hC, _, _, hM, G, hb⟩ := h
  mt_cons hC hM ((ka_fnV G hb tk n hn).kj hr) r
end
section
variable {K : PySem.W.Frag} {x qual : Str} {params : Arguments} {body : List Stmt} {scope : Scope} {dvs : List V} {kws : List (Str × V)} {f : Addr} {fd : FuncData} {ps : List Str} {pv : Str}
/-- no keyword-only parameters, no defaults -/
theorem FunD.bnV (F : FunD K x qual params body scope [] kws f fd)
    (h : ∀ (kV doc pm : Value) (an : Option Addr) (cdv ct : Value) (us rest : List Value), us.length = ps.length → bindArgs (PySem.W.fnOf x qual params body scope .none kV doc pm an cdv ct) ⟨us ++ rest, []⟩ = (newTuple rest >>= fun t => pure (ps.zip us ++ [(pv, t)]))) : BnV K fd ps pv := by
  obtain ⟨c1, d1, v1, k1, doc1, pm1, an1, cd1, ct1, sl1, hfd, hlk, hcd, hD, hK⟩ := F.ex
  subst hfd
  rcases hD with ⟨_, hv⟩ | ⟨hv, _⟩
  · subst hv
    intro s us rest _ hl M A Ex Q hq
    rw [h k1 doc1 pm1 an1 cd1 ct1 us rest hl]
    exact hq
  · exact absurd rfl hv
end
end L3
namespace L3
open PySem PySem.Spec PyProof.Rows L2
/-- a method whose def closes over the cell of its class -/
structure FunS (K : PySem.W.Frag) (x qual : Str) (params : Arguments) (body : List Stmt) (scope : Scope) (dvs : List V) (kws : List (Str × V)) (f : Addr) (fd : FuncData) (cc c : Addr) : Prop where
  ex : ∃ (oc : Value) (od : Option Addr) (dV kV doc pm : Value) (an : Option Addr) (ct : Value) (osl : Array (Option Value)),
    fd = PySem.W.fnX x qual params body scope [("__class__", cc)] dV kV doc pm an (.ref c) ct ∧ K.lookup f = some ⟨oc, od, .func fd, osl⟩ ∧ PySem.W.codeIn K (.ref c) qual = true ∧ DflV K dV dvs ∧ KwdV K kV kws
  kp : PySem.W.keepIn K (.ref f) = true
/-- the body's words -/
abbrev sNF (x qual : Str) (params : Arguments) (body : List Stmt) (scope : Scope) (cc c : Addr) : NdefX.NF := ⟨x, qual, params, body, scope, [("__class__", cc)], c⟩
/-- code of a body that stands on top: an expression, statements -/
def JEA (X : Cx) (g : Gx) (b : List Stmt) (e : Expr) (d : DE) : Prop := ∀ (pins : List (Addr × Obj)) (s : Shared) (σ : St) (H : Hp) (Q : VK), Inv X pins σ H s → LE X.K g d σ H Q → _root_.PySem.wpAt (model X.prog X.w) X.A (.func b X.env) (eval e X.env) (EP X pins σ Q) X.xe s
def JSsA (X : Cx) (g : Gx) (b st : List Stmt) (d : DS) : Prop := ∀ (pins : List (Addr × Obj)) (s : Shared) (σ : St) (H : Hp) (D : Ends), Inv X pins σ H s → LS X.K g d D σ H → _root_.PySem.wpAt (model X.prog X.w) X.A (.func b X.env) (execs st X.env) (SP X pins D) X.xe s
section
variable {X : Cx} {g : Gx} {b rest : List Stmt} {st : Stmt} {e : Expr} {de : DE} {ds du : DS} {pos : Pos}
theorem jsA_of (h : JSs X g rest ds) : JSsA X g b rest ds := fun pins s σ H D I q => _root_.PySem.wpAt_of_wpAny (h.run pins s σ H D I q)
/-- what is wanted behind the first statement -/
def thenD (K : PySem.W.Frag) (g : Gx) (du : DS) (D : Ends) : Ends := { nx := fun σ H => LS K g du D σ H, rt := D.rt, bk := D.bk, ct := D.ct }
theorem seq_asks {K : PySem.W.Frag} {D : Ends} {σ : St} {H : Hp} (q : LS K g (dSeq ds du) D σ H) : LS K g ds (thenD K g du D) σ H := by
  obtain ⟨l, s, rfl, ok, q⟩ := q
  refine ⟨l, s, rfl, ok, ?_⟩
  simp only [dSeq] at q
  cases e : ds s with
  | bad => rw [e] at q; exact q
  | exn x t => rw [e] at q; exact q
  | ok f t =>
    rw [e] at q
    cases f with
    | nx => exact fun l1 σ1 st1 ok1 => ⟨l1, t, rfl, ok1, RunS.step (show RunS K g (du t) l D σ1 from by
        have q : RunS K g (du t) l D σ := q
        exact q) st1⟩
    | rt v => exact q
    | bk => exact q
    | ct => exact q
theorem jsA_cons (h1 : JS X g st ds) (h2 : JSsA X g b rest du) : JSsA X g b (st :: rest) (dSeq ds du) := fun pins s σ H D I q => by
  refine _root_.PySem.ks_wpAt_execs_cons (_root_.PySem.wpAt_of_wpAny (thn (h1.run pins s σ H _ I (seq_asks q)) fun f s1 hs => ?_))
  cases f with
  | next =>
    obtain ⟨σ', H', J, q2⟩ := hs
    exact h2 pins s1 σ' H' D J q2
  | brk => exact hs
  | cont => exact hs
  | ret u => exact hs
end
section
variable {X : Cx} {g : Gx} {b rest : List Stmt} {st : Stmt} {e : Expr} {de : DE} {ds du : DS} {pos : Pos}
theorem expr_asks {K : PySem.W.Frag} {D : Ends} {σ : St} {H : Hp} (q : LS K g (dExpr de) D σ H) : LE K g de σ H (fun _ H1 => D.nx σ H1) := by
  obtain ⟨l, s, rfl, ok, q⟩ := q
  refine ⟨l, s, rfl, ok, Run.mono (Run.bindS q) fun u H1 ⟨l1, s1, p, e1, ok1, r1, st1, h1⟩ => ?_⟩
  subst e1
  exact h1 l1 _ (Step.refl l1) ok1
theorem jsA_expr (he : JEA X g b e de) (h2 : JSsA X g b rest du) (hi : interactive X.env = false := by rfl) (hs : swapsWith e none pos.line X.env = pure false := by rfl) : JSsA X g b (.Expr e pos :: rest) (dSeq (dExpr de) du) := fun pins s σ H D I q => by
  refine _root_.PySem.ks_wpAt_execs_cons (_root_.PySem.ks_wpAt_Expr_any (_root_.PySem.wpAt_mono (he pins s σ H _ I (expr_asks (seq_asks q))) (fun v s1 hs => ?_) fun _ _ z => z) hi hs)
  obtain ⟨u, H1, J, _, q2⟩ := hs
  exact h2 pins s1 σ H1 D J q2
end
/-- the program's side: its file, no name super of its own -/
def SupP (P : Program) (file : Str) : Prop := ((P.main.file : Str) == file) = true ∧ (P.main.scope.names.lookup ("super" : Str)).isSome = false
/-- the class at D, its cell at cc, the code object at c -/
structure SupK (K : PySem.W.Frag) (file : Str) (cc c D : Addr) : Prop where
  cell : ∃ (cl : Value) (cld : Option Addr) (csl : Array (Option Value)), K.lookup cc = some ⟨cl, cld, .cell (some (.ref D)), csl⟩
  code : ∃ (ccl : Value) (cdd : Option Addr) (vs : Array Value) (ccs : Array (Option Value)) (tf : Tok), K.lookup c = some ⟨ccl, cdd, .fields vs, ccs⟩ ∧ vs[2]? = some (.str file tf)
  cls : (PySem.W.clsIn K D).isSome = true
  any : PySem.W.nsIn K cStatics "thirdparty.any" = some none
/-- of an instance of the class at C: what super().m is -/
structure SupM (K : PySem.W.Frag) (D C : Addr) (m : Str) (f2 : Addr) : Prop where
  sub : PySem.W.mroIn K C (.ref D) = some true
  at_ : PySem.W.ks_superIn K C D m = some (some (.ref f2))
  ty : PySem.W.typeIn K (.ref f2) = some (.type "function")
  fi : PySem.W.fnIn K f2 = true
/-- the frame's side -/
structure SupX (X : Cx) (f cc c : Addr) : Prop where
  ks : X.env.kindOf "super" = some .globalImplicit
  kc : X.env.kindOf "__class__" = some .free
  kx : X.env.kindOf "self" = some .local
  fu : X.env.func = some f
  co : X.env.code = .ref c
  ce : X.env.cells.lookup ("__class__" : Str) = some cc
  n0 : X.N[0]? = some ("self" : Str)
  vis : Vis X.env.scope "self"
  fn : ∃ (oc : Value) (od : Option Addr) (fd : FuncData) (osl : Array (Option Value)) (ar : Arg), X.K.lookup f = some ⟨oc, od, .func fd, osl⟩ ∧ (fd.params.posonlyargs ++ fd.params.args).head? = some ar ∧ ar.arg = "self"
theorem clsIn_obj {K : PySem.W.Frag} {h : Heap} {D : Addr} {cd : ClassData} (X : K.In h) (e : PySem.W.clsIn K D = some cd) : ∃ oD, h.get? D = some oD ∧ oD.data = .cls cd := by
  unfold PySem.W.clsIn at e
  split at e
  · rename_i c d cd' sl ho
    cases e
    exact ⟨_, X _ _ ho, rfl⟩
  · cases e
section
variable {X : Cx} {pins : List (Addr × Obj)} {σ : St} {H : Hp} {s : Shared} {b : List Stmt} {f cc c D C x : Addr} {file m : Str} {ox : Obj} {od : Option Obj}
theorem sup_base {p0 p1 : Pos} {whole : Sem Value} {Q : Value → Shared → Prop} (SX : SupX X f cc c) (SK : SupK X.K file cc c D) (SP : SupP X.prog file) (hm : X.mg "super" = none) (I : Inv X pins σ H s) (hself : σ[0]? = some (some (.ref x))) (J : PySem.W.InstAt s.heap x ox C od)
    (hsub : PySem.W.mroIn X.K C (.ref D) = some true) (hat : (m == ("__class__" : Str)) = false) (h : ∀ so s', Inv X ((so, PySem.W.ks_superObj D x C) :: pins) σ H s' → Q (.ref so) s') :
    _root_.PySem.wpAt (model X.prog X.w) X.A (.func b X.env) (attributeBase (.Call (.Name "super" p0) [] [] p1) m X.env whole) Q X.xe s := by
  have KI := I.kIn
  obtain ⟨cdD, hcd⟩ := Option.isSome_iff_exists.mp SK.cls
  obtain ⟨oD, hD1, hD2⟩ := clsIn_obj KI hcd
  obtain ⟨oc, odf, fd, osl, ar, hf, hp, har⟩ := SX.fn
  obtain ⟨ccl, cdd, vs, ccs, tf, hc, hvs⟩ := SK.code
  obtain ⟨cl, cld, csl, hcell⟩ := SK.cell
  obtain ⟨mm, hn, hl⟩ := I.loc
  obtain ⟨u, ru, lk⟩ := hl 0 "self" _ SX.n0 hself SX.vis
  obtain rfl : u = Value.ref x := ru
  obtain ⟨mb, hb1, hb2⟩ := I.mod.blt
  refine _root_.PySem.ks_wpAt_super_base (env := X.env) SX.ks SX.kc hat SX.fu (KI _ _ hf) rfl hp SX.co (KI _ _ hc) rfl hvs SP.1 SP.2 ?_
  refine PySem.W.ks_loadName_global I.ok.kind SX.ks (Calls.loadGlobal_builtin (by rw [I.ok.glob]; exact I.mod.glob.keeps I.bk) hm (by rw [I.ok.blt]; exact hb1.keeps I.bk) ((hb2 _ (by decide)).trans (show bootBuiltins "super" = some (.type "super") from by first | rfl | kernel_rfl)) ⟨rfl, ?_⟩)
  refine wpAny_loadName_free I.ok.kind SX.kc SX.ce ⟨_, KI _ _ hcell, rfl⟩ ?_
  rw [har]
  have hself' : mm "self" = some (.ref x) := by
    rcases lk with ⟨_, z⟩ | ⟨z, _⟩
    · exact z
    · rw [SX.kx] at z
      rcases z with z | z <;> cases z
  refine wpAny_loadName_local I.ok.kind SX.kx hn hself' ?_
  obtain ⟨hh, g, d, t, os⟩ := s
  refine _root_.PySem.ks_wpAny_isType_cls hD1 hD2 ⟨rfl, ?_⟩
  refine _root_.PySem.ks_wpAny_call_super hD1 hD2 J.at_ J.cls (fun cx e => ?_) (PySem.W.looks_mroIn KI hsub) (fun h' e k => ?_)
  · have := J.no
    unfold PySem.W.notCls at this
    rw [e] at this
    exact Bool.noConfusion this
  · exact h _ _ (ClX.pin_new (t' := t) I k (Nat.le_refl _) e (fun v z => nomatch z))
theorem sup_meth {so f2 : Addr} {pl : Sem Bool} {A : Around} {E : Value → Shared → Prop} {Q : Value × List Value → Shared → Prop} (SK : SupK X.K file cc c D) (SM : SupM X.K D C m f2) (I : Inv X ((so, PySem.W.ks_superObj D x C) :: pins) σ H s) (J : PySem.W.InstAt s.heap x ox C od) (hn : (m == ("__class__" : Str)) = false)
    (h : ∀ s', Inv X ((s.heap.objs.size, PySem.W.methodObj (.ref f2) (.ref x)) :: (so, PySem.W.ks_superObj D x C) :: pins) σ H s' → Q (.ref s.heap.objs.size, []) s') : wpAny (model X.prog X.w) A (getMethod (.ref so) m pl) Q E s := by
  have KI := I.kIn
  have hso := ClX.pin_at I
  have hh := SM.at_
  cases hc : PySem.W.clsIn X.K C with
  | none => unfold PySem.W.ks_superIn at hh; rw [hc] at hh; cases hh
  | some cd =>
    unfold PySem.W.ks_superIn at hh
    rw [hc] at hh
    obtain ⟨of, hof, hofc⟩ : ∃ of, s.heap.get? f2 = some of ∧ of.cls = .type "function" := by
      have ht' : (X.K.lookup f2).map (·.cls) = some (.type "function") := SM.ty
      cases z : X.K.lookup f2 with
      | none => rw [z] at ht'; cases ht'
      | some of => rw [z] at ht'; exact ⟨of, KI _ _ z, Option.some.inj ht'⟩
    have I2 := ClX.met_new (g := f2) (C := x) I
    obtain ⟨hp, g, d, t, os⟩ := s
    refine _root_.PySem.ks_wpAny_getMethod_super hso (PySem.W.looks_opaque KI SK.any) (l₀ := cd.mro) (fun A Q E s k q => wpAny_bind ((PySem.W.looks_clsIn KI hc) A _ E s k (wpAny_pure q))) rfl KI hh hof hofc (PySem.W.ks_ne KI J hc) hn (h _ I2)
end
@[simp] def dSup (cs : List Str) (fn : List PV → S → R S PV) (dr : DA) : DE := fun s => match s.env[0]? with
  | some (some (SV.val p)) => (match insN s.mu p with
    | some (c, _, _) => if c ∈ cs then (dr s).bind fun ps s1 => fn (p :: ps) s1 else .bad
    | none => .bad)
  | _ => .bad
section
variable {X : Cx} {g : Gx} {b : List Stmt} {f cc c D f2 : Addr} {file m : Str} {cs : List Str} {fn : List PV → S → R S PV} {e : Expr} {es : List Expr} {dr : DA} {p0 p1 apos pos : Pos}
theorem jeA_sup {pl : Sem Bool} (SX : SupX X f cc c) (SK : SupK X.K file cc c D) (SP : SupP X.prog file) (hm : X.mg "super" = none) (SM : ∀ c ∈ cs, SupM X.K D (He.ga X.K c) m f2) (hc : KJ X g f2 fn) (ha : JA X g (e :: es) dr) (hat : (m == ("__class__" : Str)) = false := by decide)
    (hst : starEach (e :: es) X.env = (false, eval e X.env) :: starEach es X.env := by rfl) (hpl : (backTo pos (starEach es X.env)).any (·.1) = false := by rfl)
    (he : eval (.Call (.Attribute (.Call (.Name "super" p0) [] [] p1) m apos) (e :: es) [] pos) X.env = (do
      let ov ← attributeBase (.Call (.Name "super" p0) [] [] p1) m X.env (eval (.Call (.Name "super" p0) [] [] p1) X.env)
      standAt apos.atName
      let (f, first) ← holding [ov] (getMethod ov m pl)
      callWith pos f first (backTo pos (starEach (e :: es) X.env)) []) := by rfl) : JEA X g b (.Call (.Attribute (.Call (.Name "super" p0) [] [] p1) m apos) (e :: es) [] pos) (dSup cs fn dr) := fun pins s σ H Q I q => by
  obtain ⟨l, st, rfl, ok, q⟩ := q
  simp only [dSup] at q
  split at q
  · rename_i p ep
    split at q
    · rename_i cn ns xs ei
      split at q
      · rename_i hcs
        obtain ⟨u, eu, ru⟩ := ok.env 0 p ep
        obtain ⟨n, a, dx, vs, rfl, h1, h2, rfl, h3, h4, h5⟩ := rep_nst ok ru ei
        obtain ⟨mA, O, _⟩ := ins_get I.hok h3
        obtain ⟨od, J, _⟩ := O.look
        refine _root_.PySem.ks_wpAt_MethodCall (pl := pl) ?_ he
        refine sup_base SX SK SP hm I eu J (SM cn hcs).sub hat fun so s1 I1 => ?_
        obtain ⟨mA1, O1, _⟩ := ins_get I1.hok h3
        obtain ⟨od1, J1, _⟩ := O1.look
        refine sup_meth SK (SM cn hcs) I1 J1 hat fun s2 I2 => ?_
        refine ClX.callwith_cm I2 (ClX.base_none I1 (Nat.le_refl _)) (SM cn hcs).fi (thn (ha.run pos _ s2 σ _ _ I2 ⟨l, st, rfl, ok, RunA.bind q⟩) fun us s3 ⟨ws, H2, I3, rv, l2, s2', ps, e2, ok2, rp, st2, q2⟩ => ⟨⟨ClX.pin_at I3, I3.kIn⟩, ?_⟩) hst hpl
        subst e2
        have z := hc _ s3 σ (.ref a :: ws) (.ref a :: us) Q l2 s2' (.ptr n :: ps) I3 (.cons rfl rv) ok2 ⟨.ref a, ws, rfl, ⟨a, st2.al n a h2, rfl⟩, rp⟩ q2
        exact thn (wpAny_call (PySem.W.method_call (ClX.pin_at I3) z)) fun _ _ y => ClX.unpinE (ClX.unpinE y)
      · exact q.elim
    · exact q.elim
  · exact q.elim
end
end L3
namespace L3
open PySem PySem.Spec PyProof.Rows L2
/-- what a body is asked, from what the promise says -/
theorem ls_asks {K : PySem.W.Frag} {CR : Addr} {n Nl : Nat} {d : DS} {H : Hp} {E : XK} {vs : List V} {Q : VK} (hps : n ≤ Nl) (h : spJ K CR n (runBody Nl d) vs H Q E) :
    ∃ Nn : Addr → Prop, LS K ⟨CR, Nn, fun c dd _ H => E c dd H⟩ d { nx := fun _ H' => Q .non H', rt := Q } (vs.map some ++ List.replicate (Nl - vs.length) none) H := by
  obtain ⟨Nn, l, qs, mu, rfl, ok, r, hl, q⟩ := h
  refine ⟨Nn, l, ⟨qs.map (fun p => some (.val p)) ++ List.replicate (Nl - qs.length) none, mu⟩, rfl, ?_, ?_⟩
  · have hv : vs.length = n := by rw [← r.length]; exact hl
    have e1 : ∀ (i : Nat) sv, (qs.map (fun p => some (SV.val p)) ++ List.replicate (Nl - qs.length) none)[i]? = some (some sv) → ∃ p, qs[i]? = some p ∧ sv = .val p := by
      intro i sv e
      by_cases h : i < qs.length
      · rw [List.getElem?_append_left (by rw [List.length_map]; exact h), List.getElem?_map] at e
        cases e2 : qs[i]? with
        | none => rw [e2] at e; cases e
        | some p => rw [e2] at e; cases e; exact ⟨p, rfl, rfl⟩
      · rw [List.getElem?_append_right (by rw [List.length_map]; omega), List.getElem?_replicate] at e
        split at e <;> cases e
    refine ⟨?_, fun i v e => ?_, fun i v e => ?_, fun i j xs ys a _ e => ?_, ok.ok.mlen, fun n a m h1 h2 => ?_, ok.ok.nd, ok.ok.alM, ok.ok.there, ok.ok.mn, fun x hx => (ok.ok.tabs x hx).same rfl⟩
    · rw [List.length_append (as := vs.map some), List.length_map, List.length_replicate]
      show (qs.map (fun p => some (SV.val p)) ++ List.replicate (Nl - qs.length) none).length = _
      rw [List.length_append, List.length_map, List.length_replicate]
      omega
    · obtain ⟨p, h1, h2⟩ := e1 i _ e
      cases h2
      obtain ⟨u, h3, h4⟩ := r.get h1
      refine ⟨u, ?_, h4⟩
      rw [List.getElem?_append_left (by rw [List.length_map]; exact (List.getElem?_eq_some_iff.mp h3).1), List.getElem?_map, h3] <;> rfl
    · obtain ⟨p, h1, h2⟩ := e1 i _ e
      cases h2
    · obtain ⟨p, h1, h2⟩ := e1 i _ e
      cases h2
    · have q := ok.ok.mu n a m h1 h2
      cases m <;> exact q
  · -- the end
    have fin : ∀ {l' : Lc} {s' : L3.S} {σ' : St} {v : PV} {u : V}, Step l l' → Sok K ⟨CR, Nn, fun c dd _ H => E c dd H⟩ l' s' σ' → RepG K ⟨CR, Nn, W0⟩ l' v u →
        Step l ⟨l'.al, fun a => a ∈ l'.al ∨ IsT K a, l'.H⟩ ∧ Fok K CR Nn ⟨l'.al, fun a => a ∈ l'.al ∨ IsT K a, l'.H⟩ s'.mu ∧ RepG K ⟨CR, Nn, W0⟩ ⟨l'.al, fun a => a ∈ l'.al ∨ IsT K a, l'.H⟩ v u := by
      intro l' s' σ' v u st ok' rv
      refine ⟨⟨st.pre, fun a h => st.new a (ok'.inM h), st.keep, st.dom⟩, Sok.toF ok' (fun a h => .inr h) (fun a h => ok'.mn a (ok'.inM h)), Rep.mono (fun _ _ h => h) (fun a o n e => ⟨e, fun z => by
        rcases z with z | z
        · exact n (.inl (ok'.inM z))
        · exact n (.inr z)⟩) v u rv⟩
    unfold runBody at q
    cases e : d ⟨qs.map (fun p => some (.val p)) ++ List.replicate (Nl - qs.length) none, mu⟩ with
    | bad => rw [e] at q; exact q
    | exn ex t =>
      rw [e] at q
      intro l' σ' cls dd st ok' rx
      obtain ⟨f1, f2, _⟩ := fin (v := .non) (u := .non) st ok' rfl
      refine q ⟨l'.al, fun a => a ∈ l'.al ∨ IsT K a, l'.H⟩ cls dd f1 f2 ?_
      obtain ⟨C, ns, xs, us, h1, h2, h3, h4, h5⟩ := rx
      refine ⟨C, ns, xs, us, h1, h2, h3, RepL.mono (fun _ _ h => h) (fun a o n e => ⟨e, fun z => by
        rcases z with z | z
        · exact n (.inl (ok'.inM z))
        · exact n (.inr z)⟩) _ _ h4, ?_⟩
      rcases h5 with h5 | ⟨d', h5, h6, h7⟩
      · exact .inl h5
      · exact .inr ⟨d', h5, fun z => h6 (by
          rcases z with z | z
          · exact .inl (ok'.inM z)
          · exact .inr z), h7⟩
    | ok fl t =>
      rw [e] at q
      cases fl with
      | nx =>
        intro l' σ' st ok'
        obtain ⟨f1, f2, f3⟩ := fin (v := .non) (u := .non) st ok' rfl
        exact q ⟨l'.al, fun a => a ∈ l'.al ∨ IsT K a, l'.H⟩ .non f1 f2 f3
      | rt v =>
        intro l' σ' u st ok' rv
        obtain ⟨f1, f2, f3⟩ := fin st ok' rv
        exact q ⟨l'.al, fun a => a ∈ l'.al ∨ IsT K a, l'.H⟩ u f1 f2 f3
      | bk => exact (show False from q).elim
      | ct => exact (show False from q).elim
/-- where such a def's code object stands -/
theorem cells_cls {K : PySem.W.Frag} {P : Program} {w : World} {mg : Str → Option Value} {base : Heap} {A : Around} {outer : List Env} {s : Shared} {H : Hp} {cc : Addr} {D : Addr} (e0 : Env0 P w K mg base A outer s H)
    (hc : ∃ (cl : Value) (cld : Option Addr) (csl : Array (Option Value)), K.lookup cc = some ⟨cl, cld, .cell (some (.ref D)), csl⟩) : NdefX.CellsAt [(("__class__" : Str), cc)] ["__class__"] [none] s.heap H := by
  obtain ⟨cl, cld, csl, hcell⟩ := hc
  have hb := e0.bs _ _ (e0.mod.kin _ _ hcell)
  have one : ∀ (y : Str) (c : Addr), ([(("__class__" : Str), cc)] : List (Str × Addr)).lookup y = some c → y = "__class__" ∧ c = cc := fun y c e => by
    rw [List.lookup_cons] at e
    cases q : (y == ("__class__" : Str)) with
    | true => rw [q] at e; cases e; exact ⟨eq_of_beq q, rfl⟩
    | false => rw [q] at e; cases e
  refine ⟨rfl, fun y c e => ?_, fun x y c e1 e2 => ?_, fun i y e => ?_⟩
  · obtain ⟨rfl, rfl⟩ := one y c e
    exact ⟨hb.2, _, _, hb.1, rfl⟩
  · exact (one x c e1).1.trans (one y c e2).1.symm
  · cases i with
    | zero =>
      cases e
      exact ⟨cc, by rw [List.lookup_cons, show (("__class__" : Str) == ("__class__" : Str)) = true from beq_self_eq_true _], fun v z => by cases z⟩
    | succ i => simp at e
section
variable {P : Program} {w : World} {K : PySem.W.Frag} {mg : Str → Option Value} {base : Heap} {Cr : Addr} {x qual : Str} {params : Arguments} {body : List Stmt} {scope : Scope} {dvs : List V} {kws : List (Str × V)} {f cc c : Addr} {fd : FuncData} {N ps : List Str} {pv : Str} {k : Nat} {d : DS}
/-- the context of the body -/
abbrev scx (P : Program) (w : World) (K : PySem.W.Frag) (mg : Str → Option Value) (base : Heap) (N : List Str) (x qual : Str) (params : Arguments) (body : List Stmt) (scope : Scope) (cc c f : Addr) (A : Around) (outer : List Env) (s : Shared) (H : Hp) (E : XK) : Cx :=
  NdefX.ncx (L2.CX P w) P w K mg base N (sNF x qual params body scope cc c) f A outer s H E
/-- such a def called, whatever its binding makes -/
theorem run_sup {A : Around} {outer : List Env} {s : Shared} {H : Hp} {args : Args} {Q : VK} {E : XK} {G : List V → Hp → Prop} (F : FunS K x qual params body scope dvs kws f fd cc c) (S : NdefX.NScope N ps ["__class__"] scope)
    (hcl : ∃ (D : Addr) (cl : Value) (cld : Option Addr) (csl : Array (Option Value)), K.lookup cc = some ⟨cl, cld, .cell (some (.ref D)), csl⟩) (hr : Room (k + 1) A) (e0 : Env0 P w K mg base A outer s H) (hb : StX.Bnd (L2.CX P w) P w K mg base fd args ps A outer s H E G)
    (hbody : ∀ (s2 : Shared) (H2 : Hp) (vs : List V), G vs H2 → Room k (A.deeper (NdefX.envF (sNF x qual params body scope cc c) f s2.heap.objs.size)) → ∃ (Nn : Addr → Prop) (d : DS), JSsA (scx P w K mg base N x qual params body scope cc c f A outer s2 H2 E) ⟨Cr, Nn, fun c dd _ H => E c dd H⟩ body body d ∧
      LS K ⟨Cr, Nn, fun c dd _ H => E c dd H⟩ d { nx := fun _ H' => Q .non H', rt := Q } (vs.map some ++ List.replicate (N.length - vs.length) none) H2) : codeAny (model P w) A (.call (.ref f) args) (CR (L2.CX P w) outer P w H s Q E) s := by
  obtain ⟨oc, od, dV, kV, doc, pm, an, ct, osl, rfl, lk, hcd, _, _⟩ := F.ex
  have KX : K.In s.heap := e0.mod.kin.keeps fun b o e => (e0.bs b o e).1
  refine codeAny_call_function hr.rm.depth (KX _ _ lk) rfl S.co S.gen rfl (PySem.W.codeRec_of KX hcd) ?_
  refine hb _ _ _ fun s2 H2 vs us e2 un ho hx r hl g => ?_
  have lim : s2.heap.NoLimit := e0.mod.nolimit.keeps fun b o e => (e2.bs b o e).1
  refine wpAny_newFunctionEnv S.nocell (fun ⟨n, _⟩ hy => S.par n (List.of_mem_zip hy).1) (fun h₁ hns hsb => ⟨lim.fresh _ hsb, ?_⟩) S.kind
  show codeAny _ _ (.func body (NdefX.envF (sNF x qual params body scope cc c) f s2.heap.objs.size)) _ _
  refine _root_.PySem.ks_codeAny_funcAt ?_
  have kp : ∀ b o, s2.heap.get? b = some o → h₁.get? b = some o := fun b o e => hsb.extBut b o (Nat.ne_of_lt (Heap.lt_size e)) (Heap.get?_push_of_some _ e)
  obtain ⟨Nn, d, hj, hq⟩ := hbody s2 H2 vs g (hr.deeper _)
  obtain ⟨D, hcl⟩ := hcl
  have I : Inv (scx P w K mg base N x qual params body scope cc c f A outer s2 H2 E) [] (NdefX.startF N vs [none]) H2 { s2 with heap := h₁, toks := s2.toks + (ps.zip us).length } := NdefX.inv_startN S hr.hd e2 hl r (cells_cls e2 hcl) hns kp
  have es : NdefX.startF N vs [none] = vs.map some ++ List.replicate (N.length - vs.length) none := by
    have hN : ps.length + 1 ≤ N.length := by
      have q := congrArg List.length S.pre
      rw [List.length_take, List.length_append] at q
      have z : (["__class__"] : List Str).length = 1 := rfl
      omega
    unfold NdefX.startF
    show vs.map some ++ (none :: List.replicate (N.length - vs.length - 1) none) = _
    rw [← List.replicate_succ, show N.length - vs.length - 1 + 1 = N.length - vs.length by omega]
  rw [es] at I
  refine _root_.PySem.wpAt_mono (hj [] _ _ H2 _ I hq) (fun fl s' hs => ?_) fun e s' hs => ?_
  · have fin : ∀ {σ' : L2.St} {H' : Hp} {v : V} {u : Value}, Inv (scx P w K mg base N x qual params body scope cc c f A outer s2 H2 E) [] σ' H' s' → L2.RelV v u → Q v H' → CE outer P w H s Q u s' :=
      fun {σ' H' v u} J rv q => ⟨v, H', J.os.trans ho, J.bare, un.trans J.base, J.hok, rv, q⟩
    cases fl with
    | ret u =>
      obtain ⟨v, σ', H', J, rv, q⟩ := hs
      exact fin J rv q
    | next =>
      obtain ⟨σ', H', J, q⟩ := hs
      exact fin (v := V.non) (u := Value.none) J rfl q
    | brk =>
      obtain ⟨_, _, _, q⟩ := hs
      exact False.elim q
    | cont =>
      obtain ⟨_, _, _, q⟩ := hs
      exact False.elim q
  · exact wpAny_mono hs (fun _ s'' z => hx e s'' z) fun e' s'' z => hx e' s'' z
theorem pre_len {N ps : List Str} {sc : Scope} (S : NdefX.NScope N ps ["__class__"] sc) : ps.length ≤ N.length := by
  have q := congrArg List.length S.pre
  rw [List.length_take, List.length_append] at q
  omega
/-- THE RULE for such a method -/
theorem jf_fnS {file : Str} {D : Addr} (F : FunS K x qual params body scope dvs kws f fd cc c) (S : NdefX.NScope N ps ["__class__"] scope) (SK : SupK K file cc c D)
    (hb : ∀ (A : Around) (outer : List Env) (s : Shared) (H : Hp) (E : XK) (Nn : Addr → Prop), Room k (A.deeper (NdefX.envF (sNF x qual params body scope cc c) f s.heap.objs.size)) → JSsA (scx P w K mg base N x qual params body scope cc c f A outer s H E) ⟨Cr, Nn, fun c dd _ H => E c dd H⟩ body body d) :
    FJ P w K mg base Cr (k + 1) f fd ps (runBody N.length d) where
  len := fun vs H Q E h => by
    obtain ⟨N, l, qs, mu, e, ok, r, hl, q⟩ := h
    rw [← r.length, hl]
  run := fun A outer s H args us vs Q E hr e0 hbd r h => by
    have hv : vs.length = ps.length := by
      obtain ⟨N, l, qs, mu, e, ok, r, hl, q⟩ := h
      rw [← r.length, hl]
    refine run_sup (G := fun xs H2 => xs = vs ∧ H2 = H) (Cr := Cr) F S ⟨D, SK.cell⟩ hr e0 (fun A' Ex Q' hh => hbd _ _ _ _ (hh s H vs us e0 Un.refl rfl (fun _ _ z => z) r hv ⟨rfl, rfl⟩)) fun s2 H2 xs ⟨e1, e2⟩ hr' => ?_
    subst e1 e2
    obtain ⟨Nn, q⟩ := ls_asks (pre_len S) h
    exact ⟨Nn, d, hb A outer s2 H2 E Nn hr', q⟩
end
end L3
namespace L3
open PySem PySem.Spec PyProof.Rows L2 PySem.Calls
@[simp] def lenBk : PV → S → R S PV := fun v s => match v with
  | .int n => if 0 ≤ n ∧ n < 2 ^ 63 then .ok (.int n) s else .bad
  | _ => .bad
end L3
namespace L3
open PySem PySem.Spec PyProof.Rows L2
theorem cl_of {cl : List (Str × Addr)} (h : cl.map (fun p => (p.1, 0)) = [(("__class__" : Str), 0)]) : ∃ a, cl = [(("__class__" : Str), a)] := by
  match cl, h with
  | [(x, a)], h =>
    simp only [List.map_cons, List.map_nil, List.cons.injEq, Prod.mk.injEq, and_true] at h
    exact ⟨a, by rw [h]⟩
  | [], h => cases h
  | _ :: _ :: _, h => simp at h
theorem DefX.funS {K : PySem.W.Frag} {d : DefX} (hs : d.sup = true) (e : fnX K (d.ad K) = d.val) (c : d.ok K = true) : ∃ fd, FunS K d.name d.qual d.params d.body d.scope (d.dvs K) (d.kws K) (d.ad K) fd (clA K (d.ad K)) (cdF K (d.ad K)) := by
  obtain ⟨kp, c2⟩ := He.ba c
  unfold fnX at e
  unfold clA cdF
  revert c2 e
  cases q : K.lookup (d.ad K) with
  | none => exact fun e c2 => nomatch c2
  | some o =>
    obtain ⟨oc, od, dt, osl⟩ := o
    cases dt with
    | func fd =>
      intro e c2
      obtain ⟨n1, n2, n3, n4, n5, n6, n7, n8, n9, n10, n11, n12, n13, n14, n15⟩ := fd
      have e2 : (some (n1, n2, n3, n4, n5, n6, n7.map fun p => (p.1, 0), n15) : He.FnW) = some (d.name, d.qual, d.params, .stmts d.body, d.scope, mainGlobals, supCl d.sup, builtinsNs) := e
      rw [hs] at e2
      simp only [Option.some.injEq, Prod.mk.injEq] at e2
      obtain ⟨g1, g2, g3, g4, g5, g6, g7, g8⟩ := e2
      obtain ⟨a, g7⟩ := cl_of g7
      subst g1 g2 g3 g4 g5 g6 g7 g8
      obtain ⟨k1, k2⟩ := He.ba (show (PySem.W.codeIn K n13 d.qual && (He.dflB K n8 (d.dvs K) && He.kwdB K n9 (d.kws K))) = true from c2)
      obtain ⟨k3, k4⟩ := He.ba k2
      cases n13 with
      | ref cd => exact ⟨_, ⟨oc, od, n8, n9, n10, n11, n12, n14, osl, rfl, q, k1, He.dflB_ok k3, He.kwdB_ok k4⟩, kp⟩
      | _ => cases k1
    | _ => exact fun e c2 => nomatch c2
theorem SaysX.defS_ {fa : List He.Fa} {xs : List (PySem.W.Frag → Bool)} {fn : List DefX} {K : PySem.W.Frag} (c : SaysX fa xs fn K) (i : Nat) {d : DefX} (h : fn[i]? = some d := by rfl) (hs : d.sup = true := by rfl) :
    ∃ fd, FunS K d.name d.qual d.params d.body d.scope (d.dvs K) (d.kws K) (d.ad K) fd (clA K (d.ad K)) (cdF K (d.ad K)) := DefX.funS hs (c.at_ i h).1 (c.at_ i h).2
section
variable {K : PySem.W.Frag}
theorem supB_ok {file c m : Str} (h : supB file c m K = true) : SupK K file (clA K (He.ma K (He.ga K c) m)) (cdF K (He.ma K (He.ga K c) m)) (He.ga K c) := by
  obtain ⟨h1, h⟩ := He.ba h
  obtain ⟨h2, h⟩ := He.ba h
  obtain ⟨h3, h4⟩ := He.ba h
  refine ⟨?_, ?_, h3, He.eqO_ok h4⟩
  · unfold cellB at h1
    split at h1
    · rename_i q e
      cases of_decide_eq_true h1
      exact ⟨_, _, _, e⟩
    · cases h1
  · unfold fileB at h2
    split at h2
    · rename_i q e
      split at h2
      · rename_i tf e3
        cases of_decide_eq_true h2
        exact ⟨_, _, _, _, _, e, e3⟩
      · cases h2
    · cases h2
theorem supMB_ok {d b m : Str} {cs : List Str} (h : supMB d b m cs K = true) : ∀ c ∈ cs, SupM K (He.ga K d) (He.ga K c) m (He.ma K (He.ga K b) m) := fun c hc => by
  obtain ⟨h1, h⟩ := He.ba (List.all_eq_true.mp h c hc)
  obtain ⟨h2, h⟩ := He.ba h
  obtain ⟨h3, h4⟩ := He.ba h
  exact ⟨of_decide_eq_true h1, He.eqO_ok h2, of_decide_eq_true h3, h4⟩
end
section
variable {K : PySem.W.Frag} {x qual : Str} {params : Arguments} {body : List Stmt} {scope : Scope} {dvs : List V} {kws : List (Str × V)} {f cc c : Addr} {fd : FuncData} {ps : List Str} {pv : Str}
/-- no default is read -/
theorem FunS.kb3 (F : FunS K x qual params body scope [] kws f fd cc c) (n : Nat) (ks : List Str) (is : List (Nat × Nat))
    (h : ∀ (kV doc pm : Value) (an : Option Addr) (ct : Value) (us ws : List Value), us.length = n → ws.length = ks.length → bindArgs (PySem.W.fnX x qual params body scope [("__class__", cc)] .none kV doc pm an (.ref c) ct) ⟨us, ks.zip ws⟩ = pure (ps.zip (pick3 is us [] ws))) :
    KBn K fd ps n ks (fun us ws => pick3 is us [] ws) (fun vs zs => pick3 is vs [] zs) := by
  obtain ⟨c1, d1, v1, k1, doc1, pm1, an1, ct1, sl1, hfd, hlk, hcd, hD, hK⟩ := F.ex
  subst hfd
  rcases hD with ⟨_, hv⟩ | ⟨hv, _⟩
  · subst hv
    exact ⟨fun s us ws X l1 l2 => .of_eq (h k1 doc1 pm1 an1 ct1 us ws l1 l2), fun r1 r2 => pick3_vals r1 .nil r2⟩
  · exact absurd rfl hv
/-- keyword-only defaults, of which those in ms are read -/
theorem FunS.kb4 (F : FunS K x qual params body scope [] kws f fd cc c) (n : Nat) (ks : List Str) (is : List (Nat × Nat)) (ms : List (Str × V)) (hk : kws ≠ []) (hms : ∀ q ∈ ms, q ∈ kws)
    (h : ∀ (D : Addr) (doc pm : Value) (an : Option Addr) (ct : Value) (us mv ws : List Value), us.length = n → mv.length = ms.length → ws.length = ks.length →
      KwChain D ((ms.map (·.1)).zip mv) (bindArgs (PySem.W.fnX x qual params body scope [("__class__", cc)] .none (.ref D) doc pm an (.ref c) ct) ⟨us, ks.zip ws⟩) (ps.zip (pick3 is us mv ws))) :
    ∃ mv : List Value, KBn K fd ps n ks (fun us ws => pick3 is us mv ws) (fun vs zs => pick3 is vs (ms.map (·.2)) zs) := by
  obtain ⟨c1, d1, v1, k1, doc1, pm1, an1, ct1, sl1, hfd, hlk, hcd, hD, hK⟩ := F.ex
  subst hfd
  rcases hD with ⟨_, hv⟩ | ⟨hv, _⟩
  · subst hv
    rcases hK with e | ⟨D, hv, hq⟩
    · exact absurd e hk
    · subst hv
      obtain ⟨mv, hl, rk, hks⟩ := kwd_vals (ms := ms) fun q hm => hq q (hms q hm)
      exact ⟨mv, fun s us ws X l1 l2 => BindsTo.of_looks fun M => KwChain.looks X hks (h D doc1 pm1 an1 ct1 us mv ws l1 hl l2), fun r1 r2 => pick3_vals r1 rk r2⟩
  · exact absurd rfl hv
/-- the frame of such a method -/
theorem SupX.of {P : Program} {w : World} {mg : Str → Option Value} {base : Heap} {N : List Str} {A : Around} {outer : List Env} {s : Shared} {H : Hp} {E : XK} {ar : Arg} (F : FunS K x qual params body scope dvs kws f fd cc c)
    (hp : (params.posonlyargs ++ params.args).head? = some ar) (ha : ar.arg = "self") (h1 : scope.names.lookup ("super" : Str) = some .globalImplicit) (h2 : scope.names.lookup ("__class__" : Str) = some .free) (h3 : scope.names.lookup ("self" : Str) = some .local) (h4 : N[0]? = some ("self" : Str)) :
    SupX (scx P w K mg base N x qual params body scope cc c f A outer s H E) f cc c := by
  obtain ⟨c1, d1, v1, k1, doc1, pm1, an1, ct1, sl1, hfd, hlk, hcd, hD, hK⟩ := F.ex
  subst hfd
  exact ⟨h1, h2, h3, rfl, rfl, by
    show ([(("__class__" : Str), cc)] : List (Str × Addr)).lookup ("__class__" : Str) = some cc
    rw [List.lookup_cons, show (("__class__" : Str) == ("__class__" : Str)) = true from beq_self_eq_true _], h4, .inl h3, _, _, _, _, ar, hlk, hp, ha⟩
end
/-- what super().m is, said in a method of d's, of instances of cs -/
def HasSU (P : Program) (w : World) (K : PySem.W.Frag) (mg : Str → Option Value) (base : Heap) (CR : Addr) (file d m : Str) (cs : List Str) (k : Nat) (ps : List Str) (F : DF) : Prop :=
  mg "super" = none ∧ SupP P file ∧ ∃ f2, (∀ c ∈ cs, SupM K (He.ga K d) (He.ga K c) m f2) ∧ At P w K mg base CR f2 k ps F
section
variable {X : Cx} {g : Gx} {b : List Stmt} {f cc c : Addr} {file d m : Str} {cs ps : List Str} {F : DF} {e : Expr} {es : List Expr} {dr : DA} {p0 p1 apos pos : Pos} {k n : Nat}
theorem jeA_supH {pl : Sem Bool} (h : HasSU X.prog X.w X.K X.mg X.base g.CR file d m cs k ps F) (SX : SupX X f cc c) (SK : SupK X.K file cc c (He.ga X.K d)) (hr : Room k X.A) (tk : Takes X g.W) (ha : JA X g (e :: es) dr) (hn : n = ps.length := by rfl) (hat : (m == ("__class__" : Str)) = false := by decide)
    (hst : starEach (e :: es) X.env = (false, eval e X.env) :: starEach es X.env := by rfl) (hpl : (backTo pos (starEach es X.env)).any (·.1) = false := by rfl)
    (he : eval (.Call (.Attribute (.Call (.Name "super" p0) [] [] p1) m apos) (e :: es) [] pos) X.env = (do
      let ov ← attributeBase (.Call (.Name "super" p0) [] [] p1) m X.env (eval (.Call (.Name "super" p0) [] [] p1) X.env)
      standAt apos.atName
      let (f, first) ← holding [ov] (getMethod ov m pl)
      callWith pos f first (backTo pos (starEach (e :: es) X.env)) []) := by rfl) : JEA X g b (.Call (.Attribute (.Call (.Name "super" p0) [] [] p1) m apos) (e :: es) [] pos) (dSup cs (fMt n F) dr) :=
  let ⟨hm, SP, _, SM, hA⟩ := h
  jeA_sup SX SK SP hm SM (hA.jr hr tk n hn) ha hat hst hpl he
end
end L3
namespace L3
open PySem PySem.Spec PyProof.Rows L2
/-- the first place of an equal one -/
def idxP (x : PV) : List PV → Option Nat
  | [] => none
  | y :: r => if eqP y x then some 0 else (idxP x r).map (· + 1)
@[simp] def fIndex : PV → List PV → S → R S PV := fun p ps s => match p, ps with
  | .lst xs, [x] => if okD 8 x = true ∧ okD 8 (.lst xs) = true then (match idxP x xs with
    | some j => .ok (.int (j : Nat)) s
    | none => .bad) else .bad
  | _, _ => .bad
@[simp] def dIndex (da : DE) (dr : DA) : DE := fun s => (da s).bind fun p s1 => match p with
  | .lst xs => (dr s1).bind fun ps s2 => fIndex (.lst xs) ps s2
  | _ => .bad
end L3
namespace TupQ
open PySem PySem.SeqAt
open AutoSeq1 (wpAny_loadPart')
open MeetsSeq MeetsSeq2 MeetsSeq3 SeqRoads2
/-- the answer from the items' answers -/
def tupAns (ans : Nat → Bool) (m n : Nat) : Bool := (List.range (min m n)).all ans && (m == n)
section
variable {prog : Program} {w : World} {A : Around} {R : Result → Shared → Prop}
theorem tuple_eqV (l b : Addr) (items items2 : Array Value) (n n2 : Nat) (dd dd2 : Option Addr) (sl sl2 : Array (Option Value)) (ans : Nat → Bool) (I : Nat → Shared → Prop)
    (turn : ∀ i (h1 : i < items.size) (h2 : i < items2.size) s, I i s → wpAny (model prog w) A.in1 (eqBool items[i] items2[i]) (fun r s' => r = ans i ∧ I (i + 1) s') (fun e s' => R (.error e) s') s)
    (fin : ∀ i s, I i s → R (.ok (.ret (.bool (tupAns ans items.size items2.size)))) s) {s : Shared} (hl1 : s.heap.get? l = some { cls := .type "tuple", dict := dd, data := .seq items n, slots := sl }) (hb1 : s.heap.get? b = some { cls := .type "tuple", dict := dd2, data := .seq items2 n2, slots := sl2 }) (h : I 0 s) :
    wpAny (model prog w) A.in1 (Builtin.«tuple.__eq__» ⟨[.ref l, .ref b], []⟩) (GQ.FinOf prog w A R) (fun e s' => R (.error e) s') s := by
  have f2 := AutoSeq1.sub_tuple_tuple
  have hZ : (items.toList.zip items2.toList).length = min items.size items2.size := by simp
  have h0 := h
  obtain ⟨hp, g, d, tk, os⟩ := s
  wp_walk using wpAny_loadPart' hl1, wpAny_loadPart' hb1, wpAny_forIn_list _ (fun rest b s' => b.1 = none ∧ ∃ i, rest = (items.toList.zip items2.toList).drop i ∧ i ≤ min items.size items2.size ∧ (∀ j, j < i → ans j = true) ∧ I i s') _
  case turn =>
    rintro ⟨y, x⟩ rest b s' ⟨hb', i, hz, hi, ha, hI⟩
    have hlt : i < (items.toList.zip items2.toList).length := by
      rcases Nat.lt_or_ge i (items.toList.zip items2.toList).length with h' | h'
      · exact h'
      · rw [List.drop_of_length_le h'] at hz; cases hz
    have h1 : i < items.size := by omega
    have h2 : i < items2.size := by omega
    rw [List.drop_eq_getElem_cons hlt] at hz
    injection hz with hyx hrest
    have hy : y = items[i] := by have := congrArg Prod.fst hyx; simpa using this
    have hx : x = items2[i] := by have := congrArg Prod.snd hyx; simpa using this
    subst hy hx
    refine wpAny_bind (wpAny_mono (turn i h1 h2 s' hI) (fun r s2 q2 => ?_) fun _ _ x => x)
    obtain ⟨hr, q2⟩ := q2
    cases e : ans i with
    | true =>
      rw [e] at hr
      subst hr
      wp_walk
      refine ⟨rfl, i + 1, hrest, by omega, fun j hj => ?_, q2⟩
      rcases Nat.lt_or_ge j i with z | z
      · exact ha j z
      · rw [show j = i by omega]; exact e
    | false =>
      rw [e] at hr
      subst hr
      have hR := fin (i + 1) s2 q2
      have ef : tupAns ans items.size items2.size = false := by
        unfold tupAns
        have : (List.range (min items.size items2.size)).all ans = false := by
          rw [Bool.eq_false_iff]
          intro z
          have := List.all_eq_true.mp z i (List.mem_range.mpr (by omega))
          rw [e] at this
          cases this
        rw [this, Bool.false_and]
      rw [ef] at hR
      wp_walk
      exact hR
  case fin =>
    rintro ⟨b1, b2⟩ s' ⟨hb', i, hz, hi, ha, hI⟩
    simp only at hb'
    subst hb'
    have hge : min items.size items2.size ≤ i := by
      rcases Nat.lt_or_ge i (items.toList.zip items2.toList).length with h' | h'
      · rw [List.drop_eq_getElem_cons h'] at hz; cases hz
      · omega
    have hi' : i = min items.size items2.size := by omega
    have hR := fin i s' hI
    have et : tupAns ans items.size items2.size = (items.size == items2.size) := by
      unfold tupAns
      have : (List.range (min items.size items2.size)).all ans = true := List.all_eq_true.mpr fun j hj => ha j (by have := List.mem_range.mp hj; omega)
      rw [this, Bool.true_and]
    rw [et] at hR
    wp_walk
    simpa [Builtin.Tuple.tupleCompareSizes] using hR
  case h =>
    exact ⟨rfl, 0, rfl, Nat.zero_le _, fun j hj => absurd hj (Nat.not_lt_zero j), h0⟩
end
section
variable {prog : Program} {w : World} {A : Around} {E : Value → Shared → Prop} {s : Shared}
theorem rc_tupV {l b : Addr} {items items2 : Array Value} {Q : Value → Shared → Prop} (ans : Nat → Bool) (hu : A.units < cLine) (I : Nat → Shared → Prop)
    (hl : s.heap.IsTuple l items) (hb : s.heap.IsTuple b items2)
    (turn : ∀ i (h1 : i < items.size) (h2 : i < items2.size) s, I i s → wpAny (model prog w) A.in1 (eqBool items[i] items2[i]) (fun r s' => r = ans i ∧ I (i + 1) s') E s)
    (fin : ∀ i s, I i s → Q (.bool (tupAns ans items.size items2.size)) s) (h : I 0 s) : wpAny (model prog w) A (richCompare .Eq (.ref l) (.ref b)) Q E s := by
  obtain ⟨⟨cls, dd, data, sl⟩, ho, hc, n, hd⟩ := id hl
  obtain ⟨⟨cls2, dd2, data2, sl2⟩, ho2, hc2, n2, hd2⟩ := id hb
  simp only at hc hd hc2 hd2
  subst hc hd hc2 hd2
  refine wpAny_richCompare_same_room (op := .Eq) ⟨_, ho, rfl⟩ ⟨_, ho2, rfl⟩ F.slot_tuple_eq (GQ.call_here F.slot_tuple_eq ⟨_, ho, rfl⟩ F.entry_tuple_eq (F.args_tuple_eq_2 _ _) ?_) hu
  exact tuple_eqV (R := wants (fun v s' => v ≠ .notImplemented ∧ Q v s') E) l b items items2 n n2 dd dd2 sl sl2 ans I turn (fun i s' q => ⟨(fun x => nomatch x), fin i s' q⟩) ho ho2 h
end
end TupQ
namespace L3
open PySem PySem.Spec PyProof.Rows L2
/-- two tuples of ratios, else h -/
def gEqV (h : PV → PV → S → R S PV) : PV → PV → S → R S PV := fun p q s => match p, q with
  | .tup xs, .tup ys => (match ratsP xs, ratsP ys with
    | some us, some vs => .ok (.bl (decide (us = vs))) s
    | _, _ => h (.tup xs) (.tup ys) s)
  | p, q => h p q s
theorem tupAns_eq {us vs : List Rat} : TupQ.tupAns (fun i => decide (us[i]? = vs[i]?)) us.length vs.length = decide (us = vs) := by
  unfold TupQ.tupAns
  rw [Bool.eq_iff_iff, Bool.and_eq_true, List.all_eq_true, beq_iff_eq, decide_eq_true_iff]
  constructor
  · rintro ⟨h1, h2⟩
    refine List.ext_getElem? fun i => ?_
    rcases Nat.lt_or_ge i us.length with z | z
    · exact of_decide_eq_true (h1 i (List.mem_range.mpr (by omega)))
    · rw [List.getElem?_eq_none z, List.getElem?_eq_none (by omega)]
  · rintro rfl
    exact ⟨fun i _ => decide_eq_true rfl, rfl⟩
section
variable {X : Cx} {g : Gx} {pins : List (Addr × Obj)} {σ : St} {st : S} {l : Lc} {s : Shared} {A : Around} {k : Nat}
theorem rat_eqB {F : DF} {f : Addr} (B : CmpF X.K g.CR f "__eq__") (hc : KA X g k f (fMt 2 F)) (hp : ∀ (u v : Rat) mu, F [.rat u, .rat v] mu = .ok (.bl (decide (u = v))) mu) (hs : Sub X k A) {a b : Rat} {x y : V} {u v : Value} (I : Inv X pins σ l.H s) (ok : Sok X.K g l st σ)
    (rp : RepG X.K g l (.rat a) x) (rq : RepG X.K g l (.rat b) y) (rx : RelV x u) (ry : RelV y v) : wpAny (model X.prog X.w) A (eqBool u v) (fun r s' => r = decide (a = b) ∧ Kp X g pins σ st l s') X.xe s := by
  obtain ⟨a1, dx, e1, n1, hH⟩ := id rp
  subst e1
  obtain ⟨b1, dy, e2, n2, hH2⟩ := id rq
  subst e2
  cases (show u = .ref a1 from rx)
  cases (show v = .ref b1 from ry)
  by_cases hab : a1 = b1
  · subst hab
    have e := rat_same rp rq
    exact same_bool ⟨(decide_eq_true e).symm, l, Step.refl l, I, ok⟩
  · refine GQ.eqBool_refG hab (wpAny_mono (eq_at hs hs.room.units0 B hc I ok rp rq (Q := fun u H1 => ∃ l1 : Lc, l1.H = H1 ∧ Step l l1 ∧ Sok X.K g l1 st σ ∧ u = .bl (decide (a = b))) ?_) (fun w s' z => ?_) fun _ _ z => z)
    · have e : fMt 2 F [.rat a, .rat b] st = .ok (.bl (decide (a = b))) st := by simp [hp]
      rw [e]
      exact fun l' u st' ok' ru' => ⟨l', rfl, st', ok', ru'⟩
    · obtain ⟨u2, H1, I1, ru2, l1, e, st1, ok1, e2⟩ := z
      subst e e2
      exact ⟨_, ru2, rfl, l1, st1, I1, ok1⟩
theorem OJ.eqV {F : DF} {h : PV → PV → S → R S PV} (hB : HasCm X.prog X.w X.K X.mg X.base g.CR k F) (hr : Room (k + 1) X.A) (tk : Takes X g.W) (hp : ∀ (u v : Rat) mu, F [.rat u, .rat v] mu = .ok (.bl (decide (u = v))) mu) (ho : OJ X g (compareOp .Eq) h) : OJ X g (compareOp .Eq) (gEqV h) := by
  obtain ⟨_, f, B, hA⟩ := hB
  have hc : KA X g k f (fMt 2 F) := hA.ka tk (g := g)
  intro pins s σ x y v u Q l st p q I rx ry ok rp rq run
  unfold gEqV at run
  split at run
  · rename_i xs ys
    split at run
    · rename_i us vs e1 e2
      have e1 := ratsP_at e1
      have e2 := ratsP_at e2
      subst e1 e2
      obtain ⟨a, _, rfl, _⟩ := id rp
      obtain ⟨b, _, rfl, _⟩ := id rq
      cases (show v = .ref a from rx)
      cases (show u = .ref b from ry)
      obtain ⟨v1, its, ra, r1, t1⟩ := tup_here I rp
      obtain ⟨v2, its2, rb, r2, t2⟩ := tup_here I rq
      have l1 : its.length = us.length := by have := r1.length; have := repL_len ra; rw [List.length_map] at this; omega
      have l2 : its2.length = vs.length := by have := r2.length; have := repL_len rb; rw [List.length_map] at this; omega
      refine TupQ.rc_tupV (fun i => decide (us[i]? = vs[i]?)) hr.units0 (fun _ s' => Kp X g pins σ st l s') t1 t2 (fun i h1 h2 s' hk => ?_) (fun i s' hk => ?_) ⟨l, Step.refl l, I, ok⟩
      · obtain ⟨l', st', I', ok'⟩ := hk
        have i1 : i < us.length := by simp only [List.size_toArray] at h1; omega
        have i2 : i < vs.length := by simp only [List.size_toArray] at h2; omega
        have g1 : (us.map PV.rat)[i]? = some (.rat us[i]) := by simp [i1]
        have g2 : (vs.map PV.rat)[i]? = some (.rat vs[i]) := by simp [i2]
        obtain ⟨w1, hw1, rp1⟩ := repL_at (st'.reps ra) g1
        obtain ⟨w2, hw2, rq1⟩ := repL_at (st'.reps rb) g2
        refine wpAny_mono (rat_eqB B hc hp ⟨hr.in1, rfl⟩ I' ok' rp1 rq1 (vals_item r1 hw1 h1) (vals_item r2 hw2 h2)) (fun r s2 z => ?_) fun _ _ z => z
        obtain ⟨hz, l2, st2, I2, ok2⟩ := z
        refine ⟨?_, l2, st'.trans st2, I2, ok2⟩
        rw [hz, List.getElem?_eq_getElem i1, List.getElem?_eq_getElem i2]
        simp
      · obtain ⟨l', st', I', ok'⟩ := hk
        have e3 : TupQ.tupAns (fun i => decide (us[i]? = vs[i]?)) its.toArray.size its2.toArray.size = decide (us = vs) := by
          rw [List.size_toArray, List.size_toArray, l1, l2, tupAns_eq]
        rw [e3]
        exact ⟨.bl (decide (us = vs)), l'.H, I', rfl, run l' _ st' ok' rfl⟩
    · exact ho pins s σ x y v u Q l st _ _ I rx ry ok rp rq run
  · exact ho pins s σ x y v u Q l st _ _ I rx ry ok rp rq run
end
end L3
namespace L3
open PySem PySem.Calls L2
end L3
namespace LD
noncomputable section
open PySem L3
/-- slots: self, kind, many -/
def d_Summary___init__ : DS := (dSeq (dFPutN ["Summary", "Moments"] "own_kind" (dVar 0) (dVar 1)) (dFPutN ["Summary", "Moments"] "own_many" (dVar 0) (dVar 2)))
def F_Summary___init__ : DF := runBody 3 d_Summary___init__
/-- slots: self, order, kept, __class__ -/
def d_Moments___init__ : DS := (dSeq (dExpr (dFnS F_need_amount (dCons (dVar 1) (dCons (dC (.int 2)) (dCons (dC (.int 8)) dNil))))) (dSeq (dExpr (dSup ["Moments"] (fMt 3 F_Summary___init__) (dCons (dC (.str ("moments" : Str))) (dCons (dIf (dTru (dBin (fIsN false) (dVar 2) (dC .non))) (dC (.int 0)) (dBin fIx (dVar 2) (dC (.int 0)))) dNil)))) (dSeq (dFPutN ["Moments"] "own_order" (dVar 0) (dVar 1)) (dFPutN ["Moments"] "own_sums" (dVar 0) (dIf (dTru (dBin (fIsN false) (dVar 2) (dC .non))) (dFn fTuple (dCons (dBin gMul (dLst (dCons (dFn (fMakeR okR) (dCons (dC (.int 0)) dNil)) dNil)) (dVar 1)) dNil)) (dBin fIx (dVar 2) (dC (.int 1))))))))
def F_Moments___init__ : DF := runBody 4 d_Moments___init__
def b_power_sums_1 : DS := (dSeq (dExpr (dApp 7 (dFn (fMakeR okR) (dCons (dFn fSumI (dCons (dVar 5) dNil)) (dCons (dVar 6) dNil))))) (dPar [5, 6] (dCons (dFr (dComp (iZip (dCons (dVar 5) (dCons (dVar 3) dNil))) (gT 2 (gCons (gN 8) (gCons (gN 9) gNil))) dYes (dBin gMul (dVar 8) (dVar 9)) [8, 9])) (dCons (dBin gMul (dVar 6) (dVar 4)) dNil))))
/-- slots: values, order, turn, integers, bottom, powers, below, found, one, two -/
def d_power_sums : DS := (dSeq (dAsg (dFnS F_common (dCons (dVar 0) dNil)) (gT 2 (gCons (gN 3) (gCons (gN 4) gNil)))) (dSeq (dAsgX [5, 6, 7] (xVal (dVar 3) (xVal (dVar 4) (xOwn (dLstF dNil) xNil)))) (dSeq (dFor (iRange1 (dCons (dVar 1) dNil)) (gN 2) b_power_sums_1) (dFrz [7] (dRet (dFn fTuple (dCons (dVar 7) dNil)))))))
def F_power_sums : DF := runBody 10 d_power_sums
def b_Moments_power_sums_of_1 : DS := (dExpr (dFnS F_need_number (dCons (dVar 2) dNil)))
/-- slots: self, numbers, number -/
def d_Moments_power_sums_of : DS := (dSeq (dFor (iSeq (dVar 1)) (gN 2) b_Moments_power_sums_of_1) (dRet (dFnS F_power_sums (dCons (dFr (dComp (iSeq (dVar 1)) (gN 2) dYes (dFnS F_ratio_of (dCons (dVar 2) dNil)) [2])) (dCons (dUn (fFldN ["Moments"] "own_order") (dVar 0)) dNil)))))
def F_Moments_power_sums_of : DF := runBody 3 d_Moments_power_sums_of
def e_added_1 : DE := (dBin (gRL F_Ratio___add__ gAdd) (dVar 2) (dVar 3))
/-- slots: one, other, value, far -/
def d_added : DS := (dRet (dFn fTuple (dCons (dFr (dComp (iZipQ (dCons (dVar 0) (dCons (dVar 1) dNil))) (gT 2 (gCons (gN 2) (gCons (gN 3) gNil))) dYes e_added_1 [2, 3])) dNil)))
def F_added : DF := runBody 4 d_added
/-- slots: self, numbers -/
def d_Moments_feed : DS := (dSeq (dFPutN ["Moments"] "own_sums" (dVar 0) (dFnS F_added (dCons (dUn (fFldN ["Moments"] "own_sums") (dVar 0)) (dCons (dMethN "power_sums_of" [("Moments", fMt 2 F_Moments_power_sums_of)] (dVar 0) (dCons (dVar 1) dNil)) dNil)))) (dFPutN ["Summary", "Moments"] "own_many" (dVar 0) (dBin gAdd (dUn (fFldN ["Summary", "Moments"] "own_many") (dVar 0)) (dFn fLen (dCons (dVar 1) dNil)))))
def F_Moments_feed : DF := runBody 2 d_Moments_feed
/-- slots: self -/
def d_Moments_order : DS := (dRet (dUn (fFldN ["Moments"] "own_order") (dVar 0)))
def F_Moments_order : DF := runBody 1 d_Moments_order
/-- slots: self -/
def d_Summary_size : DS := (dRet (dUn (fFldN ["Summary", "Moments"] "own_many") (dVar 0)))
def F_Summary_size : DF := runBody 1 d_Summary_size
/-- slots: self -/
def d_Moments_sums : DS := (dRet (dUn (fFldN ["Moments"] "own_sums") (dVar 0)))
def F_Moments_sums : DF := runBody 1 d_Moments_sums
def e_w_powers_1 : DE := (dFnS F_w_power (dCons (dVar 3) (dCons (dBin gAdd (dVar 2) (dC (.int 1))) dNil)))
def e_w_powers_2 : DE := (dFnS F_w_sum (dCons (dFr (dComp (iSeq (dVar 0)) (gN 3) dYes e_w_powers_1 [3])) dNil))
/-- slots: _law_some, _law_most, _law_k, _law_one -/
def d_w_powers : DS := (dRet (dFr (dComp (iRange1 (dCons (dVar 1) dNil)) (gN 2) dYes e_w_powers_2 [2])))
def F_w_powers : DF := runBody 4 d_w_powers
/-- slots: one, other -/
def d_is_same_kind : DS := (dRet (dAnd (dUn (fIsi (bNm ["Summary", "Moments"] [])) (dVar 0)) (dAnd (dUn (fIsi (bNm ["Summary", "Moments"] [])) (dVar 1)) (dBin (gEq false) (dUn (fFldN ["Summary", "Moments"] "own_kind") (dVar 0)) (dUn (fFldN ["Summary", "Moments"] "own_kind") (dVar 1))))))
def F_is_same_kind : DF := runBody 2 d_is_same_kind
/-- slots: self, other -/
def d_Moments___eq__ : DS := (dSeq (dIfS (dOrT (dNotT (dTru (dFnS F_is_same_kind (dCons (dVar 0) (dCons (dVar 1) dNil))))) (dTru (dBin (gEq true) (dUn (fFldN ["Moments"] "own_order") (dVar 0)) (dUn (fFldN ["Moments"] "own_order") (dVar 1))))) (dRet (dC (.bl false))) dSkip) (dRet (dAnd (dBin (gEqV (gEq false)) (dUn (fFldN ["Summary", "Moments"] "own_many") (dVar 0)) (dUn (fFldN ["Summary", "Moments"] "own_many") (dVar 1))) (dBin (gEqV (gEq false)) (dUn (fFldN ["Moments"] "own_sums") (dVar 0)) (dUn (fFldN ["Moments"] "own_sums") (dVar 1))))))
def F_Moments___eq__ : DF := runBody 2 d_Moments___eq__
end
end LD
namespace LD
noncomputable section
open PySem L3
def b_w_fed_moments_1 : DS := (dExpr (dMethN "feed" [("Moments", fMtS 1 F_Moments_feed)] (dVar 2) (dCons (dVar 3) dNil)))
/-- slots: _law_some, _law_most, _law_found, _law_value -/
def d_w_fed_moments : DS := (dSeq (dSet 2 (dNewK "Moments" F_Moments___init__ 0 1 (fun us zs => pick3 [(0, 0), (2, 0), (1, 0)] us [.non] zs) dNil (dCons (dVar 1) dNil))) (dSeq (dFor (iSeq (dFnS F_w_given (dCons (dVar 0) dNil))) (gN 3) b_w_fed_moments_1) (dRet (dVar 2))))
def F_w_fed_moments : DF := runBody 4 d_w_fed_moments
def e_Moments_scaled_1 : DE := (dBin (gRL F_Ratio___mul__ gMul) (dVar 5) (dFnS F_power_of (dCons (dVar 2) (dCons (dBin gAdd (dVar 4) (dC (.int 1))) dNil))))
/-- slots: self, number, by, sums, index, value -/
def d_Moments_scaled : DS := (dSeq (dExpr (dFnS F_need_number (dCons (dVar 1) dNil))) (dSeq (dSet 2 (dFnS F_ratio_of (dCons (dVar 1) dNil))) (dSeq (dSet 3 (dFr (dComp (iEnumQ (dCons (dUn (fFldN ["Moments"] "own_sums") (dVar 0)) dNil)) (gT 2 (gCons (gN 4) (gCons (gN 5) gNil))) dYes e_Moments_scaled_1 [4, 5]))) (dRet (dNewK "Moments" F_Moments___init__ 0 2 (fun us zs => pick3 [(0, 0), (2, 0), (2, 1)] us [] zs) dNil (dCons (dUn (fFldN ["Moments"] "own_order") (dVar 0)) (dCons (dTup (dCons (dUn (fFldN ["Summary", "Moments"] "own_many") (dVar 0)) (dCons (dFn fTuple (dCons (dVar 3) dNil)) dNil))) dNil)))))))
def F_Moments_scaled : DF := runBody 6 d_Moments_scaled
def b_choices_1 : DS := (dSet 1 (dFr (dComp (iZip (dCons (dBin gAdd (dVar 1) (dLst (dCons (dC (.int 0)) dNil))) (dCons (dBin gAdd (dLst (dCons (dC (.int 0)) dNil)) (dVar 1)) dNil))) (gT 2 (gCons (gN 3) (gCons (gN 4) gNil))) dYes (dBin gAdd (dVar 3) (dVar 4)) [3, 4])))
/-- slots: order, found, turn, one, two -/
def d_choices : DS := (dSeq (dSet 1 (dLst (dCons (dC (.int 1)) dNil))) (dSeq (dFor (iRange1 (dCons (dVar 0) dNil)) (gN 2) b_choices_1) (dRet (dVar 1))))
def F_choices : DF := runBody 5 d_choices
def b_shifted_sum_1 : DS := (dSet 5 (dBin (gRL F_Ratio___add__ gAdd) (dVar 5) (dBin (gRL F_Ratio___mul__ gMul) (dBin (gRL F_Ratio___mul__ gMul) (dBin fIx (dVar 4) (dVar 6)) (dVar 7)) (dFnS F_power_of (dCons (dVar 3) (dCons (dBin gSub (dVar 2) (dVar 6)) dNil))))))
/-- slots: many, sums, power, by, before, found, index, count -/
def d_shifted_sum : DS := (dSeq (dSet 4 (dBin (gRL F_Ratio___add__ gAdd) (dLst (dCons (dFn (fMakeR okR) (dCons (dVar 0) dNil)) dNil)) (dFn fList (dCons (dVar 1) dNil)))) (dSeq (dSet 5 (dFn (fMakeR okR) (dCons (dC (.int 0)) dNil))) (dSeq (dFor (iEnumQ (dCons (dFnS F_choices (dCons (dVar 2) dNil)) dNil)) (gT 2 (gCons (gN 6) (gCons (gN 7) gNil))) b_shifted_sum_1) (dRet (dVar 5)))))
def F_shifted_sum : DF := runBody 8 d_shifted_sum
def e_Moments_shifted_1 : DE := (dFnS F_shifted_sum (dCons (dUn (fFldN ["Summary", "Moments"] "own_many") (dVar 0)) (dCons (dUn (fFldN ["Moments"] "own_sums") (dVar 0)) (dCons (dBin gAdd (dVar 4) (dC (.int 1))) (dCons (dVar 2) dNil)))))
/-- slots: self, number, by, sums, power -/
def d_Moments_shifted : DS := (dSeq (dExpr (dFnS F_need_number (dCons (dVar 1) dNil))) (dSeq (dSet 2 (dFnS F_ratio_of (dCons (dVar 1) dNil))) (dSeq (dSet 3 (dFr (dComp (iRange1 (dCons (dUn (fFldN ["Moments"] "own_order") (dVar 0)) dNil)) (gN 4) dYes e_Moments_shifted_1 [4]))) (dRet (dNewK "Moments" F_Moments___init__ 0 2 (fun us zs => pick3 [(0, 0), (2, 0), (2, 1)] us [] zs) dNil (dCons (dUn (fFldN ["Moments"] "own_order") (dVar 0)) (dCons (dTup (dCons (dUn (fFldN ["Summary", "Moments"] "own_many") (dVar 0)) (dCons (dFn fTuple (dCons (dVar 3) dNil)) dNil))) dNil)))))))
def F_Moments_shifted : DF := runBody 5 d_Moments_shifted
def e_w_moved_right_k38_1 : DE := (dFnS F_w_plus (dCons (dVar 12) (dCons (dVar 2) dNil)))
def e_w_moved_right_k38_2 : DE := (dFnS F_w_times (dCons (dVar 12) (dCons (dVar 3) dNil)))
/-- slots: _law_some, _law_most, _law_step, _law_factor, _law_due, _law_back, _law_moments, _law_kept, _law_by, _law_times_here, _law_up, _law_wide, _law_one -/
def d_w_moved_right_k38 : DS := (dSeq (dPar [6, 7] (dCons (dFnS F_w_fed_moments (dCons (dVar 0) (dCons (dVar 1) dNil))) (dCons (dFnS F_w_powers (dCons (dVar 0) (dCons (dVar 1) dNil))) dNil))) (dSeq (dAsg (dFnS F_w_given (dCons (dLst (dCons (dVar 2) (dCons (dVar 3) dNil))) dNil)) (gTL 2 (gCons (gN 8) (gCons (gN 9) gNil)))) (dSeq (dPar [10, 11] (dCons (dMethN "shifted" [("Moments", fMt 2 F_Moments_shifted)] (dVar 6) (dCons (dVar 8) dNil)) (dCons (dMethN "scaled" [("Moments", fMt 2 F_Moments_scaled)] (dVar 6) (dCons (dVar 9) dNil)) dNil))) (dSeq (dOwn 4 (dLstF (dCons (dFnS F_w_powers (dCons (dFr (dComp (iSeq (dVar 0)) (gN 12) dYes e_w_moved_right_k38_1 [12])) (dCons (dVar 1) dNil))) dNil))) (dSeq (dExpr (dApp 4 (dFnS F_w_powers (dCons (dFr (dComp (iSeq (dVar 0)) (gN 12) dYes e_w_moved_right_k38_2 [12])) (dCons (dVar 1) dNil))))) (dSeq (dIfS (dBorT [4] (dOrT (dTru (dBin (gEq true) (dLst (dCons (dFnS F_w_all_taken (dCons (dUn (fPropN [("Moments", F_Moments_sums)]) (dVar 10)) dNil)) (dCons (dFnS F_w_all_taken (dCons (dUn (fPropN [("Moments", F_Moments_sums)]) (dVar 11)) dNil)) dNil))) (dVar 4))) (dTru (dBin (gEq true) (dLst (dCons (dUn (fPropN [("Moments", F_Summary_size)]) (dVar 10)) (dCons (dUn (fPropN [("Moments", F_Summary_size)]) (dVar 11)) dNil))) (dBin gMul (dLst (dCons (dFn fLen (dCons (dVar 0) dNil)) dNil)) (dC (.int 2))))))) (dRet (dC (.bl false))) dSkip) (dSeq (dIfS (dOrT (dTru (dBin (gEq true) (dLst (dCons (dUn (fPropN [("Moments", F_Moments_order)]) (dVar 10)) (dCons (dUn (fPropN [("Moments", F_Moments_order)]) (dVar 11)) dNil))) (dBin gMul (dLst (dCons (dVar 1) dNil)) (dC (.int 2))))) (dTru (dBin (gEq true) (dFnS F_w_all_taken (dCons (dUn (fPropN [("Moments", F_Moments_sums)]) (dVar 6)) dNil)) (dVar 7)))) (dRet (dC (.bl false))) dSkip) (dSeq (dSet 5 (dMethN "shifted" [("Moments", fMt 2 F_Moments_shifted)] (dVar 10) (dCons (dBin fIx (dFnS F_w_given (dCons (dLst (dCons (dFnS F_w_minus (dCons (dTup (dCons (dC (.int 0)) (dCons (dC (.int 1)) dNil))) (dCons (dVar 2) dNil))) dNil)) dNil)) (dC (.int 0))) dNil))) (dSeq (dIfS (dNotT (dTru (dBin (gEqN ["Summary", "Moments"] [("Moments", F_Moments___eq__)] (gEq false)) (dVar 5) (dVar 6)))) (dRet (dC (.bl false))) dSkip) (dSeq (dIfS (dTru (dBin (gEq false) (dVar 3) (dTup (dCons (dC (.int 0)) (dCons (dC (.int 1)) dNil))))) (dRet (dBin (gEq false) (dFnS F_w_all_taken (dCons (dUn (fPropN [("Moments", F_Moments_sums)]) (dVar 11)) dNil)) (dBin gMul (dLst (dCons (dTup (dCons (dC (.int 0)) (dCons (dC (.int 1)) dNil))) dNil)) (dVar 1)))) dSkip) (dRet (dBin (gEqN ["Summary", "Moments"] [("Moments", F_Moments___eq__)] (gEq false)) (dMethN "scaled" [("Moments", fMt 2 F_Moments_scaled)] (dVar 11) (dCons (dBin fIx (dFnS F_w_given (dCons (dLst (dCons (dFnS F_w_through (dCons (dTup (dCons (dC (.int 1)) (dCons (dC (.int 1)) dNil))) (dCons (dVar 3) dNil))) dNil)) dNil)) (dC (.int 0))) dNil)) (dVar 6)))))))))))))
def F_w_moved_right_k38 : DF := runBody 13 d_w_moved_right_k38
/-- slots: self -/
def d_Moments_copied : DS := (dRet (dNewK "Moments" F_Moments___init__ 0 2 (fun us zs => pick3 [(0, 0), (2, 0), (2, 1)] us [] zs) dNil (dCons (dUn (fFldN ["Moments"] "own_order") (dVar 0)) (dCons (dTup (dCons (dUn (fFldN ["Summary", "Moments"] "own_many") (dVar 0)) (dCons (dUn (fFldN ["Moments"] "own_sums") (dVar 0)) dNil))) dNil))))
def F_Moments_copied : DF := runBody 1 d_Moments_copied
def b_w_apart_right_1 : DS := (dSeq (dExpr (dMethN "feed" [("Moments", fMtS 1 F_Moments_feed)] (dVar 2) (dCons (dC (.int 7)) dNil))) (dIfS (dOrT (dTru (dBin (gEq true) (dUn (fPropN [("Moments", F_Summary_size)]) (dVar 2)) (dBin gAdd (dFn fLen (dCons (dVar 0) dNil)) (dC (.int 1))))) (dOrT (dTru (dBin (gEq true) (dUn (fPropN [("Moments", F_Summary_size)]) (dVar 3)) (dFn fLen (dCons (dVar 0) dNil)))) (dTru (dBin (gEq true) (dFnS F_w_all_taken (dCons (dUn (fPropN [("Moments", F_Moments_sums)]) (dVar 3)) dNil)) (dVar 4))))) (dRet (dC (.bl false))) dSkip))
/-- slots: _law_some, _law_most, _law_other, _law_moments, _law_kept -/
def d_w_apart_right : DS := (dSeq (dPar [3, 4] (dCons (dFnS F_w_fed_moments (dCons (dVar 0) (dCons (dVar 1) dNil))) (dCons (dFnS F_w_powers (dCons (dVar 0) (dCons (dVar 1) dNil))) dNil))) (dSeq (dFor (iSeq (dTup (dCons (dMethN "shifted" [("Moments", fMt 2 F_Moments_shifted)] (dVar 3) (dCons (dC (.int 0)) dNil)) (dCons (dMethN "scaled" [("Moments", fMt 2 F_Moments_scaled)] (dVar 3) (dCons (dC (.int 1)) dNil)) (dCons (dMethN "copied" [("Moments", fMt 1 F_Moments_copied)] (dVar 3) dNil) dNil))))) (gN 2) b_w_apart_right_1) (dRet (dC (.bl true)))))
def F_w_apart_right : DF := runBody 5 d_w_apart_right
def b_law_k38_1 : DS := (dSeq (dSet 2 (dFnS F_w_source (dCons (dVar 0) (dCons (dVar 1) dNil)))) (dSeq (dPar [3, 4] (dCons (dBin gAdd (dC (.int 2)) (dFnS F_w_next (dCons (dVar 2) (dCons (dC (.int 5)) dNil)))) (dCons (dFnS F_w_row (dCons (dVar 2) (dCons (dC (.int 6)) dNil))) dNil))) (dSeq (dIfS (dNotT (dTru (dFnS F_w_moved_right_k38 (dCons (dVar 4) (dCons (dVar 3) (dCons (dFnS F_w_drawn (dCons (dVar 2) dNil)) (dCons (dFnS F_w_drawn (dCons (dVar 2) dNil)) dNil))))))) (dRet (dC (.bl false))) dSkip) (dIfS (dOrT (dNotT (dTru (dFnS F_w_moved_right_k38 (dCons (dVar 4) (dCons (dVar 3) (dCons (dTup (dCons (dC (.int 0)) (dCons (dC (.int 1)) dNil))) (dCons (dTup (dCons (dC (.int 1)) (dCons (dC (.int 1)) dNil))) dNil))))))) (dNotT (dTru (dFnS F_w_apart_right (dCons (dVar 4) (dCons (dVar 3) dNil)))))) (dRet (dC (.bl false))) dSkip))))
/-- slots: _law_script, _law_k, _law_source_here, _law_most, _law_some -/
def d_law_k38 : DS := (dSeq (dFor (iRange1 (dCons (dFn fMax2 (dCons (dC (.int 1)) (dCons (dFn fMin2 (dCons (dC (.int 3)) (dCons (dFn fLen (dCons (dVar 0) dNil)) dNil))) dNil))) dNil)) (gN 1) b_law_k38_1) (dSeq (dIfS (dNotT (dTru (dFnS F_w_moved_right_k38 (dCons (dLst (dCons (dTup (dCons (dC (.int 1)) (dCons (dC (.int 1)) dNil))) (dCons (dTup (dCons (dC (.int 2)) (dCons (dC (.int 1)) dNil))) (dCons (dTup (dCons (dC (.int 6)) (dCons (dC (.int 1)) dNil))) dNil)))) (dCons (dC (.int 3)) (dCons (dTup (dCons (dC (.int 1)) (dCons (dC (.int 1)) dNil))) (dCons (dTup (dCons (dC (.int 2)) (dCons (dC (.int 1)) dNil))) dNil))))))) (dRet (dC (.bl false))) dSkip) (dRet (dFnS F_w_moved_right_k38 (dCons (dLst (dCons (dTup (dCons (dC (.int 1)) (dCons (dC (.int 2)) dNil))) dNil)) (dCons (dC (.int 8)) (dCons (dTup (dCons (dC (.int 3)) (dCons (dC (.int 1)) dNil))) (dCons (dTup (dCons (dC (.int 0)) (dCons (dC (.int 1)) dNil))) dNil))))))))
def F_law_k38 : DF := runBody 5 d_law_k38
end
end LD
namespace PC
open PySem L3 LD
theorem ib_le {i : Int} {b : Nat} (h : i.natAbs ≤ 2 ^ b) : ib i ≤ b + 1 := by
  unfold ib
  have : i.natAbs.log2 ≤ b := by
    by_cases z : i.natAbs = 0
    · rw [z]; simp
    · have := (Nat.log2_lt z (k := b + 1)).mpr (by rw [Nat.pow_succ]; have := Nat.one_le_two_pow (n := b); omega)
      omega
  omega
theorem ib_mono {i j : Int} (h : i.natAbs ≤ j.natAbs) : ib i ≤ ib j := by
  unfold ib
  by_cases z : i.natAbs = 0
  · rw [z]; simp
  · have h2 : j.natAbs ≠ 0 := by omega
    have : i.natAbs.log2 < j.natAbs.log2 + 1 := (Nat.log2_lt z).mpr (Nat.lt_of_le_of_lt h ((Nat.log2_lt h2).mp (Nat.lt_succ_self _)))
    omega
theorem fmod_nat (a b : Nat) (h : 0 < b) : (a : Int).fmod b = ((a % b : Nat) : Int) := by
  rw [Int.fmod_eq_emod_of_nonneg _ (by omega)]; rfl
theorem cd_loop (mu : List MO) : ∀ (n a b : Nat), b < n → whileL (dTru (dBin gGt (dVar 1) (dC (.int 0)))) (dPar [0, 1] (dCons (dVar 1) (dCons (dBin gMod (dVar 0) (dVar 1)) dNil))) n ⟨[some (.val (.int a)), some (.val (.int b))], mu⟩ =
    .ok .nx ⟨[some (.val (.int (Nat.gcd a b))), some (.val (.int 0))], mu⟩
  | 0, a, b, h => by omega
  | n + 1, a, b, h => by
    unfold whileL
    by_cases z : b = 0
    · subst z; simp
    · have hb : (0 : Int) < b := by omega
      have hb' : ¬ (b : Int) = 0 := by omega
      simp only [dTru, dBin, dVar, dC, R.bind, gGt, truP, hb, decide_true, dPar, dCons, dNil, gMod, hb', ne_eq, not_false_eq_true, if_true, setP, setE, List.set, List.getElem?_cons_zero, List.getElem?_cons_succ]
      rw [fmod_nat a b (by omega), cd_loop mu n b (a % b) (by have := Nat.mod_lt a (show b > 0 by omega); omega)]
      rw [Nat.gcd_comm b (a % b), ← Nat.gcd_rec, Nat.gcd_comm b a]
theorem e_cd (a b : Int) (mu : List MO) : F_common_divisor [.int a, .int b] mu = .ok (.int (Int.gcd a b)) mu := by
  have h := cd_loop mu (b.natAbs + 1) a.natAbs b.natAbs (Nat.lt_succ_self _)
  simp only [F_common_divisor, runBody, d_common_divisor, dSeq, dPar, dCons, dFn, dVar, dNil, fAbsI, R.bind, setP, setE, List.set, dWhile, fuI, List.getElem?_cons_zero, List.getElem?_cons_succ, List.map, List.length_cons, List.length_nil, List.replicate, List.append_nil, Nat.sub_self, Int.natAbs_natCast, h, dRet]
  rfl
@[simp] theorem e_is_integer_i (i : Int) (mu : List MO) : F_is_integer [.int i] mu = .ok (.bl true) mu := rfl
@[simp] theorem e_is_integer_r (q : Rat) (mu : List MO) : F_is_integer [.rat q] mu = .ok (.bl false) mu := rfl
@[simp] theorem e_is_integer_b (q : Bool) (mu : List MO) : F_is_integer [.bl q] mu = .ok (.bl false) mu := rfl
@[simp] theorem e_is_number_i (i : Int) (mu : List MO) : F_is_number [.int i] mu = .ok (.bl true) mu := rfl
@[simp] theorem e_is_number_r (q : Rat) (mu : List MO) : F_is_number [.rat q] mu = .ok (.bl true) mu := rfl
@[simp] theorem e_need_number_i (i : Int) (mu : List MO) : F_need_number [.int i] mu = .ok .non mu := rfl
@[simp] theorem e_need_number_r (q : Rat) (mu : List MO) : F_need_number [.rat q] mu = .ok .non mu := rfl
theorem ok1 : okR t 1 = true := by unfold okR; decide
theorem divInt_one (i : Int) : Rat.divInt i 1 = (i : Rat) := by
  apply Rat.ext
  · rw [Rat.num_divInt]; simp
  · rw [Rat.den_divInt]; simp
@[simp] theorem e_ratio_of_i (i : Int) (mu : List MO) : F_ratio_of [.int i] mu = .ok (.rat (i : Rat)) mu := by
  rw [← divInt_one]; rfl
@[simp] theorem e_ratio_of_r (q : Rat) (mu : List MO) : F_ratio_of [.rat q] mu = .ok (.rat q) mu := rfl
@[simp] theorem e_of_i (C : Addr) (i : Int) (mu : List MO) : F_Ratio_of [.adr C, .int i] mu = .ok (.rat (i : Rat)) mu := by
  rw [← divInt_one]; rfl
@[simp] theorem e_of_r (C : Addr) (q : Rat) (mu : List MO) : F_Ratio_of [.adr C, .rat q] mu = .ok (.rat q) mu := rfl
theorem gcd_pos {t b : Int} (h : b ≠ 0) : 0 < Int.gcd t b := Int.gcd_pos_of_ne_zero_right _ h
theorem num_div (t b : Int) (h : b ≠ 0) : (if 0 < b then t / (Int.gcd t b : Int) else 0 - t / (Int.gcd t b : Int)) = (Rat.divInt t b).num := by
  rw [Rat.num_divInt, Int.gcd_comm b t]
  have hd : (Int.gcd t b : Int) ∣ t := Int.gcd_dvd_left ..
  by_cases z : 0 < b
  · rw [if_pos z, Int.sign_eq_one_of_pos z, Int.one_mul]
  · have z' : b < 0 := by omega
    rw [if_neg z, Int.sign_eq_neg_one_of_neg z', Int.neg_one_mul, Int.neg_ediv_of_dvd hd, Int.zero_sub]
theorem den_div (t b : Int) (h : b ≠ 0) : ((b.natAbs : Int) / (Int.gcd t b : Int)) = ((Rat.divInt t b).den : Int) := by
  rw [Rat.den_divInt, if_neg h, Int.gcd_comm b t]; rfl
theorem b_init (C : Addr) : Below 3 (FInit C okR) (runBody 5 (d_Ratio___init__ C)) := by
  intro ps mu hl
  unfold FInit
  split
  · rename_i n t b
    split
    · rename_i C' ns xs e
      split
      · rename_i h
        obtain ⟨rfl, rfl, hb, ho⟩ := h
        refine .inr ?_
        have hn : n < mu.length := (List.getElem?_eq_some_iff.mp e).1
        have e' : mu[n] = .ins C' [] xs := (List.getElem?_eq_some_iff.mp e).2
        have hne : ¬ (Str.ofString "own_top" = Str.ofString "own_bottom") := by decide
        have hg := gcd_pos (t := t) hb
        have hg' : (0 : Int) < (Int.gcd t b : Int) := by omega
        have hgb : ib (Int.gcd t b : Int) ≤ 9000 := by
          have h1 : Int.gcd t b ≤ b.natAbs := Nat.le_of_dvd (by omega) (Int.gcd_dvd_natAbs_right ..)
          have h2 : ib (Int.gcd t b : Int) ≤ ib b := ib_mono (by rw [Int.natAbs_natCast]; exact h1)
          have h3 : ib b ≤ 9000 := of_decide_eq_true ho
          omega
        have hb' : (b == 0) = false := by simpa using hb
        have q1 := num_div t b hb
        have q2 := den_div t b hb
        by_cases z : 0 < b
        · rw [if_pos z] at q1
          simp [runBody, d_Ratio___init__, forL, e_cd, e', hne, hb, hb', hn, hg', hgb, z, putN, putV, eqP, okD, q1, q2]
        · rw [if_neg z] at q1
          simp [runBody, d_Ratio___init__, forL, e_cd, e', hne, hb, hb', hn, hg', hgb, z, putN, putV, eqP, okD, q1, q2]
      · exact .inl rfl
    · exact .inl rfl
  · exact .inl rfl
end PC
namespace PC
open PySem L3 LD
theorem b_top : Below 1 F_top (runBody 1 d_Ratio_top) := fun ps mu hl => by
  match ps, hl with
  | [p], _ => cases p <;> first | exact .inr rfl | exact .inl rfl
theorem b_bottom : Below 1 F_bottom (runBody 1 d_Ratio_bottom) := fun ps mu hl => by
  match ps, hl with
  | [p], _ => cases p <;> first | exact .inr rfl | exact .inl rfl
end PC
namespace PC
open PySem L3 LD
variable {Fq : List MO → Prop}
def fr (q : Rat) : PV := .tup [.int q.num, .int q.den]
theorem low_loop (t b : Int) (mu : List MO) : ∀ (n x y : Nat), y < n → whileL (dTru (dBin (gEq true) (dVar 3) (dC (.int 0)))) (dPar [2, 3] (dCons (dVar 3) (dCons (dBin gMod (dVar 2) (dVar 3)) dNil))) n ⟨[some (.val (.int t)), some (.val (.int b)), some (.val (.int x)), some (.val (.int y))], mu⟩ =
    .ok .nx ⟨[some (.val (.int t)), some (.val (.int b)), some (.val (.int (Nat.gcd x y))), some (.val (.int 0))], mu⟩
  | 0, x, y, h => by omega
  | n + 1, x, y, h => by
    unfold whileL
    by_cases z : y = 0
    · subst z; simp [eqP, okD]
    · have hb' : ¬ (y : Int) = 0 := by omega
      have hb : ((y : Int) == 0) = false := by simpa using z
      simp only [dTru, dBin, dVar, dC, R.bind, gEq, okD, eqP, hb, truP, Bool.xor_false, and_self, if_true, dPar, dCons, dNil, gMod, hb', ne_eq, not_false_eq_true, setP, setE, List.set, List.getElem?_cons_zero, List.getElem?_cons_succ]
      rw [fmod_nat x y (by omega), low_loop t b mu n y (x % y) (by have := Nat.mod_lt x (show y > 0 by omega); omega)]
      rw [Nat.gcd_comm y (x % y), ← Nat.gcd_rec, Nat.gcd_comm y x]
theorem e_low (t b : Int) (mu : List MO) (hb : b ≠ 0) (h9 : ib b ≤ 9000) : F_w_low [.int t, .int b] mu = .ok (fr (Rat.divInt t b)) mu := by
  have h := low_loop t b mu (b.natAbs + 1) t.natAbs b.natAbs (Nat.lt_succ_self _)
  have hg := gcd_pos (t := t) hb
  have hg' : (0 : Int) < (Int.gcd t b : Int) := by omega
  have hgb : ib (Int.gcd t b : Int) ≤ 9000 := by
    have h1 : Int.gcd t b ≤ b.natAbs := Nat.le_of_dvd (by omega) (Int.gcd_dvd_natAbs_right ..)
    have h2 : ib (Int.gcd t b : Int) ≤ ib b := ib_mono (by rw [Int.natAbs_natCast]; exact h1)
    omega
  have q1 := num_div t b hb
  have q2 := den_div t b hb
  have eg : Nat.gcd t.natAbs b.natAbs = Int.gcd t b := rfl
  rw [eg] at h
  have hd : (Int.gcd t b : Int) ∣ b := Int.gcd_dvd_right ..
  generalize (Int.gcd t b) = G at *
  by_cases z : 0 < b
  · rw [if_pos z] at q1
    have q3 : b / (G : Int) = ((Rat.divInt t b).den : Int) := by rw [← q2, Int.natAbs_of_nonneg (by omega)]
    simp [F_w_low, runBody, d_w_low, h, z, hg, hg', hgb, q1, q3, fr]
  · rw [if_neg z] at q1
    have q3 : 0 - b / (G : Int) = ((Rat.divInt t b).den : Int) := by
      rw [← q2, Int.zero_sub, ← Int.neg_ediv_of_dvd hd]
      congr 1
      omega
    rw [Int.zero_sub] at q1 q3
    simp [F_w_low, runBody, d_w_low, h, z, hg, hg', hgb, q1, q3, fr]
@[simp] theorem at0 {a : Type} (x : a) (xs : List a) : L2.atI (x :: xs) 0 = some x := by simp [L2.atI, L2.ixN]
theorem ix_of {n i : Nat} (h : i < n) : L2.ixN n (i : Int) = some i := by
  unfold L2.ixN
  rw [if_pos (by omega), if_pos (by omega)]
  simp
theorem at_of {a : Type} {xs : List a} {i : Nat} (h : i < xs.length) : L2.atI xs (i : Int) = some xs[i] := by
  unfold L2.atI
  rw [ix_of h]
  simp [h]
@[simp] theorem at1 {a : Type} (x y : a) (xs : List a) : L2.atI (x :: y :: xs) 1 = some y := at_of (xs := x :: y :: xs) (i := 1) (by simp)
@[simp] theorem at2 {a : Type} (x y z : a) (xs : List a) : L2.atI (x :: y :: z :: xs) 2 = some z := at_of (xs := x :: y :: z :: xs) (i := 2) (by simp)
def primes : List PV := [.int 2147483647, .int 2147483629, .int 2147483587, .int 2147483579, .int 2147483563, .int 2147483549, .int 2147483543, .int 2147483497, .int 2147483489, .int 2147483477, .int 2147483423]
theorem prime_ok (j : Int) : ∃ p : Int, 1 < p ∧ p < 2147483648 ∧ L2.atI primes (j.fmod 11) = some (.int p) := by
  have h1 : 0 ≤ j.fmod 11 := by rw [Int.fmod_eq_emod_of_nonneg _ (by omega)]; omega
  have h2 : j.fmod 11 < 11 := by rw [Int.fmod_eq_emod_of_nonneg _ (by omega)]; omega
  generalize j.fmod 11 = i at *
  have : i = 0 ∨ i = 1 ∨ i = 2 ∨ i = 3 ∨ i = 4 ∨ i = 5 ∨ i = 6 ∨ i = 7 ∨ i = 8 ∨ i = 9 ∨ i = 10 := by omega
  rcases this with h | h | h | h | h | h | h | h | h | h | h <;> subst h <;> exact ⟨_, by decide, by decide, rfl⟩
theorem mod_bounds (i : Int) {m : Int} (h : 0 < m) : 0 ≤ i.fmod m ∧ i.fmod m < m := by
  rw [Int.fmod_eq_emod_of_nonneg _ (by omega)]
  exact ⟨Int.emod_nonneg _ (by omega), Int.emod_lt_of_pos _ h⟩
/-- a source at n; Fq: what else is known of the store, whatever stands at n -/
structure SrcR (Fq : List MO → Prop) (mu : List MO) (n k : Nat) : Prop where
  at_ : ∃ c k0 d : Int, mu[n]? = some (.lst [.int c, .int k0, .int d]) ∧ 0 ≤ k0 ∧ k0 ≤ k
  flat : flatMs mu = true
  keep : Fq mu
  stab : ∀ m v, Fq m → Fq (m.set n v)
abbrev Src : List MO → Nat → Nat → Prop := SrcR fun _ => True
theorem SrcR.also {Fq Fr : List MO → Prop} {mu : List MO} {n k : Nat} (h : SrcR Fq mu n k) (h1 : Fr mu) (h2 : ∀ m v, Fr m → Fr (m.set n v)) : SrcR Fr mu n k := ⟨h.at_, h.flat, h1, h2⟩
theorem SrcR.src {Fq : List MO → Prop} {mu : List MO} {n k : Nat} (h : SrcR Fq mu n k) : Src mu n k := h.also trivial fun _ _ _ => trivial
theorem SrcR.le {Fq : List MO → Prop} {mu : List MO} {n k k' : Nat} (h : SrcR Fq mu n k) (hk : k ≤ k') : SrcR Fq mu n k' := let ⟨⟨c, k0, d, h1, h2, h3⟩, hf, hq, hs⟩ := h; ⟨⟨c, k0, d, h1, h2, by omega⟩, hf, hq, hs⟩
theorem flat_set {mu : List MO} {n : Nat} {m : MO} (h : flatMs mu = true) (hm : flatM m = true) : flatMs (mu.set n m) = true := by
  unfold flatMs at h ⊢
  rw [List.all_eq_true] at h ⊢
  intro x hx
  rcases List.mem_or_eq_of_mem_set hx with z | z
  · exact h x z
  · rw [z]; exact hm
theorem flat_ints (a b c : Int) : flatM (.lst [.int a, .int b, .int c]) = true := by simp [flatL, flatP]
theorem next_ok {mu : List MO} {n k : Nat} {m : Int} (h : SrcR Fq mu n k) (hk : k + 1 ≤ 2 ^ 49) (hm : 0 < m) (hb : ib m ≤ 9000) : ∃ r mu', F_w_next [.ptr n, .int m] mu = .ok (.int r) mu' ∧ 0 ≤ r ∧ r < m ∧ SrcR Fq mu' n (k + 1) := by
  obtain ⟨⟨c, k0, d, h1, h2, h3⟩, hf, hq, hs⟩ := h
  have hn : n < mu.length := (List.getElem?_eq_some_iff.mp h1).1
  have e1 : mu[n] = .lst [.int c, .int k0, .int d] := (List.getElem?_eq_some_iff.mp h1).2
  have hm0 : ¬ m = 0 := by omega
  by_cases z : 0 < d
  · refine ⟨d.fmod m, mu.set n (.lst [.int c, .int k0, .int (d / m)]), ?_, ?_, ?_, ⟨⟨c, k0, d / m, by simp [hn], h2, by omega⟩, flat_set hf (flat_ints ..), hs _ _ hq, hs⟩⟩
    · simp [F_w_next, runBody, d_w_next, e1, hn, z, hm0, hm, hb, L2.ixN]
    · rw [Int.fmod_eq_emod_of_nonneg _ (by omega)]; exact Int.emod_nonneg _ hm0
    · rw [Int.fmod_eq_emod_of_nonneg _ (by omega)]; exact Int.emod_lt_of_pos _ hm
  · obtain ⟨p, p1, p2, p3⟩ := prime_ok (k0 + 1)
    have p0 : ¬ p = 0 := by omega
    obtain ⟨c1, c2⟩ := mod_bounds c (show 0 < p by omega)
    have hib : ib 7919 + ib (k0 + 1) ≤ 1000000 := by
      have h1 : ib (k0 + 1) ≤ 49 + 1 := ib_le (b := 49) (by omega)
      have h2 : ib 7919 ≤ 13 + 1 := ib_le (b := 13) (by decide)
      omega
    have hpow : (c.fmod p + 7919 * (k0 + 1) + 1).natAbs < 2 ^ 64 := by omega
    have hpow' : (c.fmod p + 7919 * (k0 + 1) + 1).natAbs < 18446744073709551616 := by omega
    have h13 : ib 13 ≤ 9000 := by decide
    have q := mod_bounds (((c.fmod p + 7919 * (k0 + 1) + 1) ^ 5).fmod p / 13) hm
    refine ⟨_, mu.set n (.lst [.int c, .int (k0 + 1), .int d]), ?_, q.1, q.2, ⟨⟨c, k0 + 1, d, by simp [hn], by omega, by omega⟩, flat_set hf (flat_ints ..), hs _ _ hq, hs⟩⟩
    unfold primes at p3
    simp [F_w_next, runBody, d_w_next, e1, hn, z, hm0, hm, hb, L2.ixN, p3, p0, hib, hpow', h13]
end PC
namespace PC
open PySem L3 LD
variable {Fq : List MO → Prop}
theorem compL_map {t : DG} {tt : DT} {te : DE} {vs : List Nat} {s0 : S} {f : PV → PV} : ∀ (xs acc : List PV), (∀ x ∈ xs, ∃ s1 s3, t x s0 = .ok () s1 ∧ tt s1 = .ok true s1 ∧ te s1 = .ok (f x) s3 ∧ wipeS vs s3 = s0) → acc.length + xs.length ≤ 16777216 →
    compL t tt te vs xs acc s0 = .ok (acc ++ xs.map f) s0
  | [], acc, _, _ => by simp [compL]
  | x :: xs, acc, h, hl => by
    obtain ⟨s1, s3, h1, h2, h3, h4⟩ := h x List.mem_cons_self
    simp only [List.length_cons] at hl
    simp only [compL, h1, tgt, h2, okB, h3]
    rw [if_pos (by omega), h4, compL_map xs (acc ++ [f x]) (fun y hy => h y (List.mem_cons_of_mem _ hy)) (by simp; omega)]
    simp
theorem okDL_ints (n : Nat) : ∀ ns : List Int, okDL n (ns.map PV.int) = true
  | [] => by simp [okDL]
  | i :: ns => by simp [okDL, okD, okDL_ints n ns]
theorem eqPL_nil (xs : List PV) : eqPL xs [] = xs.isEmpty := by cases xs <;> simp [eqPL]
theorem ib3 : ib 3 = 2 := by decide
theorem ib1018 : ib 1000000000000000000 ≤ 9000 := by decide
theorem source_ok (ns : List Int) (k : Nat) (mu : List MO) (hk : k ≤ 2 ^ 40) (hf : flatMs mu = true) : ∃ mu', F_w_source [.frz (ns.map .int), .int k] mu = .ok (.ptr mu.length) mu' ∧ Src mu' mu.length (3 * k) := by
  have h3 : ib 3 + ib (k : Int) ≤ 1000000 := by
    have : ib (k : Int) ≤ 40 + 1 := ib_le (b := 40) (by simpa using hk)
    rw [ib3]; omega
  have core : ∀ cell : Int, (if (1000000000000000000 : Int) ≤ cell then True else True) → ∀ d : Int, Src (mu ++ [.lst [.int cell, .int (3 * (k : Int)), .int d]]) mu.length (3 * k) := fun cell _ d =>
    ⟨⟨cell, 3 * k, d, by simp, by omega, by omega⟩, by unfold flatMs at hf ⊢; rw [List.all_append, hf]; simp [flatL, flatP], trivial, fun _ _ _ => trivial⟩
  have okns : okD 8 (.frz (ns.map PV.int)) = true := by unfold okD; exact okDL_ints 7 ns
  have oknil : okD 8 (.lst []) = true := by simp [okD, okDL]
  cases ns with
  | nil =>
    refine ⟨_, ?_, core 1 (by split <;> trivial) 0⟩
    simp [F_w_source, runBody, d_w_source, okns, oknil, okD, okDL, eqP, eqPL, h3]
  | cons n ns =>
    have hl : (0 : Int) < ((n :: ns).length : Int) := by simp
    obtain ⟨b1, b2⟩ := mod_bounds (k : Int) hl
    have hlt : ((k : Int).fmod ((n :: ns).length : Int)).toNat < ((n :: ns).map PV.int).length := by rw [List.length_map]; omega
    have hat := at_of hlt
    rw [Int.toNat_of_nonneg b1, List.getElem_map] at hat
    generalize hc : (n :: ns)[((k : Int).fmod ((n :: ns).length : Int)).toNat]'(by rw [List.length_map] at hlt; exact hlt) = cell at hat
    have he : eqP (.frz ((n :: ns).map PV.int)) (.lst []) = false := by simp [eqP, eqPL]
    have hl0 : ¬ ((n :: ns).length : Int) = 0 := by omega
    clear hc hlt
    generalize hxs : (n :: ns).map PV.int = xs at *
    have hlen : xs.length = (n :: ns).length := by rw [← hxs, List.length_map]
    generalize (n :: ns).length = L at *
    have hl1 : ¬ L = 0 := by omega
    by_cases z : (1000000000000000000 : Int) ≤ cell
    · refine ⟨_, ?_, core cell (by split <;> trivial) (cell / 1000000000000000000)⟩
      simp [F_w_source, runBody, d_w_source, okns, oknil, he, h3, hat, hlen, hl0, hl1, z, ib1018]
    · refine ⟨_, ?_, core cell (by split <;> trivial) 0⟩
      simp [F_w_source, runBody, d_w_source, okns, oknil, he, h3, hat, hlen, hl0, hl1, z]
theorem pick_ok {mu : List MO} {n k : Nat} {xs : List PV} (h : SrcR Fq mu n k) (hk : k + 1 ≤ 2 ^ 49) (hne : xs ≠ []) (hl : xs.length ≤ 16777216) : ∃ x mu', F_w_pick [.ptr n, .lst xs] mu = .ok x mu' ∧ x ∈ xs ∧ SrcR Fq mu' n (k + 1) := by
  have h0 : 0 < xs.length := List.length_pos_iff.mpr hne
  obtain ⟨r, mu', h1, h2, h3, h4⟩ := next_ok (m := xs.length) h hk (by omega) (by
    have := ib_le (i := (xs.length : Int)) (b := 24) (by simpa using hl)
    omega)
  have hlt : r.toNat < xs.length := by omega
  have hat := at_of hlt
  rw [Int.toNat_of_nonneg h2] at hat
  refine ⟨xs[r.toNat], mu', ?_, List.getElem_mem _, h4⟩
  simp [F_w_pick, runBody, d_w_pick, h1, hat]
end PC
namespace PC
open PySem L3 LD
def Zb (q : Rat) (b : Nat) : Prop := q.num.natAbs ≤ 2 ^ b ∧ q.den ≤ 2 ^ b
theorem Zb.le {q : Rat} {a b : Nat} (h : Zb q a) (l : a ≤ b) : Zb q b := ⟨Nat.le_trans h.1 (Nat.pow_le_pow_right (by omega) l), Nat.le_trans h.2 (Nat.pow_le_pow_right (by omega) l)⟩
theorem divInt_parts (n d : Int) (h : d ≠ 0) : (Rat.divInt n d).num.natAbs ≤ n.natAbs ∧ (Rat.divInt n d).den ≤ d.natAbs := by
  obtain ⟨m, hm, h1, h2⟩ := Rat.divInt_num_den (z' := (Rat.divInt n d).den_nz) (c := (Rat.divInt n d).reduced) h rfl
  have hm' : 0 < m.natAbs := by omega
  constructor
  · have e : n.natAbs = (Rat.divInt n d).num.natAbs * m.natAbs := by rw [← Int.natAbs_mul, ← h1]
    rw [e]; exact Nat.le_mul_of_pos_right _ hm'
  · have e : d.natAbs = (Rat.divInt n d).den * m.natAbs := by
      have := congrArg Int.natAbs h2
      rw [Int.natAbs_mul, Int.natAbs_natCast] at this
      exact this
    rw [e]; exact Nat.le_mul_of_pos_right _ hm'
theorem den_ne (q : Rat) : (q.den : Int) ≠ 0 := by have := q.den_nz; omega
theorem den_pos (q : Rat) : (0 : Int) < (q.den : Int) := by have := q.den_nz; omega
theorem add_divInt (x y : Rat) : Rat.divInt (x.num * y.den + y.num * x.den) (x.den * y.den) = x + y := by
  rw [← Rat.divInt_add_divInt _ _ (den_ne x) (den_ne y), Rat.num_divInt_den, Rat.num_divInt_den]
theorem mul_divInt (x y : Rat) : Rat.divInt (x.num * y.num) (x.den * y.den) = x * y := by
  rw [← Rat.divInt_mul_divInt, Rat.num_divInt_den, Rat.num_divInt_den]
theorem div_divInt (x y : Rat) : Rat.divInt (x.num * y.den) (x.den * y.num) = x / y := by
  rw [Rat.div_def, Rat.inv_def, ← Rat.divInt_mul_divInt, Rat.num_divInt_den]
theorem two_mul_le {a b x y : Nat} (h1 : x ≤ 2 ^ a) (h2 : y ≤ 2 ^ b) : x * y ≤ 2 ^ (a + b) := by rw [Nat.pow_add]; exact Nat.mul_le_mul h1 h2
theorem Zb.add {x y : Rat} {a b : Nat} (h1 : Zb x a) (h2 : Zb y b) : Zb (x + y) (a + b + 1) := by
  have hd : ((x.den : Int) * y.den) ≠ 0 := Int.mul_ne_zero (den_ne x) (den_ne y)
  have p := divInt_parts (x.num * y.den + y.num * x.den) (x.den * y.den) hd
  rw [add_divInt] at p
  have e1 := two_mul_le h1.1 h2.2
  have e2 := two_mul_le h2.1 h1.2
  have e3 := two_mul_le h1.2 h2.2
  have e0 : 2 ^ (a + b + 1) = 2 ^ (a + b) + 2 ^ (a + b) := by rw [Nat.pow_succ]; omega
  rw [Nat.add_comm b a] at e2
  refine ⟨Nat.le_trans p.1 (Nat.le_trans (Int.natAbs_add_le _ _) ?_), Nat.le_trans p.2 ?_⟩
  · rw [Int.natAbs_mul, Int.natAbs_mul, Int.natAbs_natCast, Int.natAbs_natCast]; omega
  · rw [Int.natAbs_mul, Int.natAbs_natCast, Int.natAbs_natCast]; omega
theorem Zb.mul {x y : Rat} {a b : Nat} (h1 : Zb x a) (h2 : Zb y b) : Zb (x * y) (a + b) := by
  have hd : ((x.den : Int) * y.den) ≠ 0 := Int.mul_ne_zero (den_ne x) (den_ne y)
  have p := divInt_parts (x.num * y.num) (x.den * y.den) hd
  rw [mul_divInt] at p
  refine ⟨Nat.le_trans p.1 ?_, Nat.le_trans p.2 ?_⟩
  · rw [Int.natAbs_mul]; exact two_mul_le h1.1 h2.1
  · rw [Int.natAbs_mul, Int.natAbs_natCast, Int.natAbs_natCast]; exact two_mul_le h1.2 h2.2
theorem Zb.ib_num {q : Rat} {a : Nat} (h : Zb q a) : ib q.num ≤ a + 1 := ib_le h.1
theorem Zb.ib_den {q : Rat} {a : Nat} (h : Zb q a) : ib (q.den : Int) ≤ a + 1 := ib_le (by rw [Int.natAbs_natCast]; exact h.2)
theorem ib_mul {i j : Int} {a b : Nat} (h1 : i.natAbs ≤ 2 ^ a) (h2 : j.natAbs ≤ 2 ^ b) : ib (i * j) ≤ a + b + 1 := ib_le (by rw [Int.natAbs_mul]; exact two_mul_le h1 h2)
theorem e_plus {x y : Rat} {a b : Nat} (h1 : Zb x a) (h2 : Zb y b) (hab : a + b ≤ 8000) (mu : List MO) : F_w_plus [fr x, fr y] mu = .ok (fr (x + y)) mu := by
  have hd : ((x.den : Int) * y.den) ≠ 0 := Int.mul_ne_zero (den_ne x) (den_ne y)
  have h9 : ib ((x.den : Int) * y.den) ≤ 9000 := by
    have := ib_mul (i := (x.den : Int)) (j := (y.den : Int)) (a := a) (b := b) (by rw [Int.natAbs_natCast]; exact h1.2) (by rw [Int.natAbs_natCast]; exact h2.2)
    omega
  have c1 : ib x.num + ib (y.den : Int) ≤ 1000000 := by have := h1.ib_num; have := h2.ib_den; omega
  have c2 : ib y.num + ib (x.den : Int) ≤ 1000000 := by have := h2.ib_num; have := h1.ib_den; omega
  have c3 : ib (x.den : Int) + ib (y.den : Int) ≤ 1000000 := by have := h2.ib_den; have := h1.ib_den; omega
  have h := e_low (x.num * y.den + y.num * x.den) (x.den * y.den) mu hd h9
  rw [add_divInt] at h
  simp [F_w_plus, runBody, d_w_plus, fr, c1, c2, c3]
  rw [h]; rfl
theorem e_through {x y : Rat} {a b : Nat} (h1 : Zb x a) (h2 : Zb y b) (hy : y.num ≠ 0) (hab : a + b ≤ 8000) (mu : List MO) : F_w_through [fr x, fr y] mu = .ok (fr (x / y)) mu := by
  have hd : ((x.den : Int) * y.num) ≠ 0 := Int.mul_ne_zero (den_ne x) hy
  have h9 : ib ((x.den : Int) * y.num) ≤ 9000 := by
    have := ib_mul (i := (x.den : Int)) (j := y.num) (a := a) (b := b) (by rw [Int.natAbs_natCast]; exact h1.2) h2.1
    omega
  have c1 : ib x.num + ib (y.den : Int) ≤ 1000000 := by have := h1.ib_num; have := h2.ib_den; omega
  have c2 : ib (x.den : Int) + ib y.num ≤ 1000000 := by have := h2.ib_num; have := h1.ib_den; omega
  have h := e_low (x.num * y.den) (x.den * y.num) mu hd h9
  rw [div_divInt] at h
  simp [F_w_through, runBody, d_w_through, fr, c1, c2]
  rw [h]; rfl
def sumQ (qs : List Rat) : Rat := qs.foldl (· + ·) 0
end PC
namespace PC
open PySem L3 LD
variable {Fq : List MO → Prop}
theorem Zb_int {i : Int} {b : Nat} (h : i.natAbs ≤ 2 ^ b) : Zb (i : Rat) b := ⟨h, Nat.one_le_two_pow⟩
theorem okDL_fr (n : Nat) : ∀ qs : List Rat, okDL (n + 1) (qs.map fr) = true
  | [] => by simp [okDL]
  | q :: qs => by simp [okDL, okD, fr, okDL_fr n qs]
theorem okD_fr (q : Rat) : okD 8 (fr q) = true := by simp [fr, okD, okDL]
theorem okD_frs (qs : List Rat) : okD 8 (.lst (qs.map fr)) = true := by
  unfold okD; exact okDL_fr 6 qs
theorem flat_fr (q : Rat) : flatP (fr q) = true := by simp [fr, flatP, flatL]
theorem okD_nil : okD 8 (.lst []) = true := by simp [okD, okDL]
@[simp] theorem okD_int (i : Int) : okD 8 (.int i) = true := by simp [okD]
@[simp] theorem okD_bl (i : Bool) : okD 8 (.bl i) = true := by simp [okD]
@[simp] theorem okD_non : okD 8 .non = true := by simp [okD]
@[simp] theorem eqP_int (i j : Int) : eqP (.int i) (.int j) = (i == j) := by simp [eqP]
@[simp] theorem eqP_bl (i j : Bool) : eqP (.bl i) (.bl j) = (i == j) := by simp [eqP]
theorem own_row (a b t : PV) (xs : List PV) : ownIn [2] [some (SV.val a), some (.val b), some (.own xs), some (.val t)] = true := rfl
theorem eqP_frs_nil (qs : List Rat) : eqP (.lst (qs.map fr)) (.lst []) = qs.isEmpty := by
  unfold eqP; rw [eqPL_nil]; cases qs <;> rfl
end PC
namespace PC
open PySem L3 LD
variable {Fq : List MO → Prop}
/-- the value stands for the fraction -/
def Is (q : Rat) (p : PV) : Prop := p = .rat q ∨ (q.den = 1 ∧ p = .int q.num)
def gv (q : Rat) : PV := if 1 < q.den then .rat q else .int q.num
theorem gv_is (q : Rat) : Is q (gv q) := by
  unfold gv Is
  by_cases z : 1 < q.den
  · rw [if_pos z]; exact .inl rfl
  · rw [if_neg z]; exact .inr ⟨by have := q.den_nz; omega, rfl⟩
theorem e_given {a : Nat} (qs : List Rat) (hz : ∀ q ∈ qs, Zb q a) (ha : a ≤ 8000) (hl : qs.length ≤ 10000) (mu : List MO) : F_w_given [.lst (qs.map fr)] mu = .ok (.lst (qs.map gv)) mu := by
  have h := compL_map (t := gT 2 (gCons (gN 1) (gCons (gN 2) gNil))) (tt := dYes) (te := dIf (dTru (dBin gGt (dVar 2) (dC (.int 1)))) (dFn (fMakeR okR) (dCons (dVar 1) (dCons (dVar 2) dNil))) (dVar 1)) (vs := [1, 2])
    (s0 := ⟨[some (.val (.lst (qs.map fr))), none, none], mu⟩) (f := fun p => match p with | .tup [.int n, .int d] => if 1 < d then .rat (Rat.divInt n d) else .int n | _ => .non) (qs.map fr) [] (fun x hx => by
      obtain ⟨q, hq, rfl⟩ := List.mem_map.mp hx
      have h9 : okR q.num q.den = true := by
        unfold okR
        have := (hz q hq).ib_den
        exact decide_eq_true (by omega)
      by_cases z : (1 : Int) < (q.den : Int)
      · refine ⟨⟨[some (.val (.lst (qs.map fr))), some (.val (.int q.num)), some (.val (.int q.den))], mu⟩, ⟨[some (.val (.lst (qs.map fr))), some (.val (.int q.num)), some (.val (.int q.den))], mu⟩, rfl, rfl, ?_, rfl⟩
        have hd : ¬ (q.den : Int) = 0 := den_ne q
        have hd' : ¬ q.den = 0 := q.den_nz
        have z' : 1 < q.den := by omega
        simp [z, z', h9, hd, hd', fr]
      · refine ⟨⟨[some (.val (.lst (qs.map fr))), some (.val (.int q.num)), some (.val (.int q.den))], mu⟩, ⟨[some (.val (.lst (qs.map fr))), some (.val (.int q.num)), some (.val (.int q.den))], mu⟩, rfl, rfl, ?_, rfl⟩
        have z' : ¬ 1 < q.den := by omega
        simp [z, z', fr]) (by simp; omega)
  have e : (qs.map fr).map (fun p => match p with | .tup [.int n, .int d] => if 1 < d then PV.rat (Rat.divInt n d) else .int n | _ => .non) = qs.map gv := by
    rw [List.map_map]
    refine List.map_congr_left fun q _ => ?_
    show (if (1 : Int) < (q.den : Int) then PV.rat (Rat.divInt q.num q.den) else .int q.num) = gv q
    unfold gv
    rw [Rat.num_divInt_den]
    by_cases z : 1 < q.den
    · rw [if_pos z, if_pos (by omega)]
    · rw [if_neg z, if_neg (by omega)]
  rw [e] at h
  simp [F_w_given, runBody, d_w_given, wipeE, h]
end PC
namespace PC
open PySem L3 LD
theorem e_taken (q : Rat) (mu : List MO) : F_w_taken [.rat q] mu = .ok (fr q) mu := rfl
theorem Is_cases {q : Rat} {p : PV} (h : Is q p) : p = .rat q ∨ ∃ i : Int, q = (i : Rat) ∧ p = .int i := by
  rcases h with h | ⟨h1, h2⟩
  · exact .inl h
  · refine .inr ⟨q.num, ?_, h2⟩
    apply Rat.ext
    · rfl
    · rw [h1]; rfl
theorem e_ratio_of {q : Rat} {p : PV} (h : Is q p) (mu : List MO) : F_ratio_of [p] mu = .ok (.rat q) mu := by
  rcases Is_cases h with rfl | ⟨i, rfl, rfl⟩
  · exact e_ratio_of_r q mu
  · exact e_ratio_of_i i mu
theorem e_is_number {q : Rat} {p : PV} (h : Is q p) (mu : List MO) : F_is_number [p] mu = .ok (.bl true) mu := by
  rcases Is_cases h with rfl | ⟨i, rfl, rfl⟩
  · rfl
  · rfl
theorem e_need_number {q : Rat} {p : PV} (h : Is q p) (mu : List MO) : F_need_number [p] mu = .ok .non mu := by
  rcases Is_cases h with rfl | ⟨i, rfl, rfl⟩
  · rfl
  · rfl
end PC
namespace PC
open PySem L3 LD
inductive All2 : List Rat → List PV → Prop where
  | nil : All2 [] []
  | cons {q : Rat} {p : PV} {qs : List Rat} {ps : List PV} (h : Is q p) (t : All2 qs ps) : All2 (q :: qs) (p :: ps)
theorem All2.len {qs : List Rat} {ps : List PV} (h : All2 qs ps) : qs.length = ps.length := by
  induction h with
  | nil => rfl
  | cons _ _ ih => simp [ih]
theorem All2.mem {qs : List Rat} {ps : List PV} (h : All2 qs ps) {p : PV} (hp : p ∈ ps) : ∃ q ∈ qs, Is q p := by
  induction h with
  | nil => cases hp
  | cons h t ih =>
    rcases List.mem_cons.mp hp with z | z
    · exact ⟨_, List.mem_cons_self, z ▸ h⟩
    · obtain ⟨q, h1, h2⟩ := ih z
      exact ⟨q, List.mem_cons_of_mem _ h1, h2⟩
theorem All2.rat : ∀ qs : List Rat, All2 qs (qs.map .rat)
  | [] => .nil
  | q :: qs => .cons (.inl rfl) (All2.rat qs)
/-- what a value that stands for a fraction is worth -/
def val : PV → Rat
  | .rat q => q
  | .int i => i
  | _ => 0
theorem val_is {q : Rat} {p : PV} (h : Is q p) : val p = q := by
  rcases Is_cases h with rfl | ⟨i, rfl, rfl⟩ <;> rfl
theorem All2.vals {qs : List Rat} {ps : List PV} (h : All2 qs ps) : ps.map (fun p => PV.rat (val p)) = qs.map .rat := by
  induction h with
  | nil => rfl
  | cons h t ih => simp [ih, val_is h]
def lcmD (qs : List Rat) : Nat := qs.foldl (fun l q => Nat.lcm l q.den) 1
end PC
namespace PC
open PySem L3 LD
theorem add_same {L : Int} (h : L ≠ 0) (a b : Int) : Rat.divInt a L + Rat.divInt b L = Rat.divInt (a + b) L := by
  rw [Rat.divInt_add_divInt _ _ h h, Rat.divInt_eq_divInt_iff (Int.mul_ne_zero h h) h, ← Int.add_mul, Int.mul_assoc]
def tops (L : Nat) (qs : List Rat) : List Int := qs.map fun q => q.num * ((L : Int) / (q.den : Int))
theorem one_same {L : Nat} {q : Rat} (h0 : 0 < L) (hd : q.den ∣ L) : Rat.divInt (q.num * ((L : Int) / (q.den : Int))) L = q := by
  obtain ⟨m, rfl⟩ := hd
  have e : (((q.den * m : Nat) : Int)) / (q.den : Int) = (m : Int) := by
    rw [← Int.natCast_ediv, Nat.mul_div_cancel_left _ q.den_pos]
  rw [e]
  conv => rhs; rw [← Rat.num_divInt_den q]
  rw [Rat.divInt_eq_divInt_iff (by omega) (den_ne q)]
  rw [Int.natCast_mul, Int.mul_assoc, Int.mul_comm (m : Int)]
theorem tops_sum {L : Nat} (h0 : 0 < L) : ∀ (qs : List Rat) (A : Int), (∀ q ∈ qs, q.den ∣ L) → Rat.divInt (A + (tops L qs).sum) L = qs.foldl (· + ·) (Rat.divInt A L)
  | [], A, _ => by simp [tops]
  | q :: qs, A, h => by
    have hL : (L : Int) ≠ 0 := by omega
    have ih := tops_sum h0 qs (A + q.num * ((L : Int) / (q.den : Int))) fun y hy => h y (List.mem_cons_of_mem _ hy)
    rw [← add_same hL A (q.num * ((L : Int) / (q.den : Int))), one_same h0 (h q List.mem_cons_self)] at ih
    rw [List.foldl_cons, ← ih]
    congr 1
    unfold tops
    rw [List.map_cons, List.sum_cons, Int.add_assoc]
theorem intsP_map : ∀ is : List Int, intsP (is.map PV.int) = some is
  | [] => rfl
  | i :: is => by simp [intsP, intsP_map is]
end PC
namespace PC
open PySem L3 LD
end PC
namespace PC
open PySem L3 LD
variable {Fq : List MO → Prop}
mutual
theorem eqP_self : ∀ (n : Nat) (p : PV), okD n p = true → eqP p p = true
  | n, .non, _ => by simp [eqP]
  | n, .bl b, _ => by simp [eqP]
  | n, .int i, _ => by simp [eqP]
  | n, .str x, _ => by simp [eqP]
  | n + 1, .tup xs, h => by unfold eqP; exact eqPL_self n xs (by unfold okD at h; exact h)
  | n + 1, .lst xs, h => by unfold eqP; exact eqPL_self n xs (by unfold okD at h; exact h)
  | n + 1, .frz xs, h => by unfold eqP; exact eqPL_self n xs (by unfold okD at h; exact h)
  | 0, .tup xs, h => by unfold okD at h; cases h
  | 0, .lst xs, h => by unfold okD at h; cases h
  | 0, .frz xs, h => by unfold okD at h; cases h
  | n, .rat _, h => by cases n <;> (unfold okD at h; cases h)
  | n, .obj _ _ _, h => by cases n <;> (unfold okD at h; cases h)
  | n, .ptr _, h => by cases n <;> (unfold okD at h; cases h)
  | n, .adr _, h => by cases n <;> (unfold okD at h; cases h)
  | n, .ty _, h => by cases n <;> (unfold okD at h; cases h)
theorem eqPL_self : ∀ (n : Nat) (xs : List PV), okDL n xs = true → eqPL xs xs = true
  | n, [], _ => by simp [eqPL]
  | n, x :: xs, h => by
    have h : (okD n x && okDL n xs) = true := by unfold okDL at h; exact h
    rw [Bool.and_eq_true] at h
    simp [eqPL, eqP_self n x h.1, eqPL_self n xs h.2]
end
theorem gEq_self (neg : Bool) {p : PV} (h : okD 8 p = true) (s : S) : gEq neg p p s = .ok (.bl (!neg)) s := by
  unfold gEq
  rw [if_pos ⟨h, h⟩, eqP_self 8 p h, Bool.xor_true]
end PC
namespace PD
open PySem L3 LD PC
structure Zd (D B : Nat) (q : Rat) : Prop where
  dvd : q.den ∣ D
  le : q.num.natAbs ≤ B * q.den
theorem Zd.mono {D B D' B' : Nat} {q : Rat} (h : Zd D B q) (h1 : D ∣ D') (h2 : B ≤ B') : Zd D' B' q := ⟨Nat.dvd_trans h.dvd h1, Nat.le_trans h.le (Nat.mul_le_mul_right _ h2)⟩
theorem Zd.zb {D B : Nat} {q : Rat} (h : Zd D B q) {b : Nat} (h0 : 0 < D) (hb : B * D ≤ 2 ^ b) (hd : D ≤ 2 ^ b) : Zb q b :=
  have l : q.den ≤ D := Nat.le_of_dvd h0 h.dvd
  ⟨Nat.le_trans h.le (Nat.le_trans (Nat.mul_le_mul_left _ l) hb), Nat.le_trans l hd⟩
/-- a fraction of ints: the lowest terms divide -/
theorem divInt_dvd (n d : Int) (h : d ≠ 0) : (Rat.divInt n d).den ∣ d.natAbs := by
  obtain ⟨m, hm, h1, h2⟩ := Rat.divInt_num_den (z' := (Rat.divInt n d).den_nz) (c := (Rat.divInt n d).reduced) h rfl
  have := congrArg Int.natAbs h2
  rw [Int.natAbs_mul, Int.natAbs_natCast] at this
  exact ⟨m.natAbs, this⟩
theorem divInt_le (n d : Int) (h : d ≠ 0) {B : Nat} (hb : n.natAbs ≤ B * d.natAbs) : (Rat.divInt n d).num.natAbs ≤ B * (Rat.divInt n d).den := by
  obtain ⟨m, hm, h1, h2⟩ := Rat.divInt_num_den (z' := (Rat.divInt n d).den_nz) (c := (Rat.divInt n d).reduced) h rfl
  have e1 : n.natAbs = (Rat.divInt n d).num.natAbs * m.natAbs := by rw [← Int.natAbs_mul, ← h1]
  have e2 : d.natAbs = (Rat.divInt n d).den * m.natAbs := by
    have := congrArg Int.natAbs h2
    rw [Int.natAbs_mul, Int.natAbs_natCast] at this
    exact this
  have hm' : 0 < m.natAbs := by omega
  rw [e1, e2, ← Nat.mul_assoc] at hb
  exact Nat.le_of_mul_le_mul_right hb hm'
theorem Zd.divInt {n d : Int} {D B : Nat} (h : d ≠ 0) (h1 : d.natAbs ∣ D) (h2 : n.natAbs ≤ B * d.natAbs) : Zd D B (Rat.divInt n d) := ⟨Nat.dvd_trans (divInt_dvd n d h) h1, divInt_le n d h h2⟩
theorem Zd.int {i : Int} {B : Nat} (h : i.natAbs ≤ B) : Zd 1 B (i : Rat) := ⟨Nat.dvd_refl _, by rw [show ((i : Rat)).den = 1 from rfl, Nat.mul_one]; exact h⟩
/-- with one bottom L that both divide: tops over it -/
theorem over_common {q : Rat} {D : Nat} (h0 : 0 < D) (h : q.den ∣ D) : ∃ t : Int, q = Rat.divInt t D ∧ ∀ B : Nat, q.num.natAbs ≤ B * q.den → t.natAbs ≤ B * D := by
  obtain ⟨m, hm⟩ := h
  refine ⟨q.num * m, ?_, fun B hB => ?_⟩
  · conv => lhs; rw [← Rat.num_divInt_den q]
    rw [hm, Rat.divInt_eq_divInt_iff (den_ne q) (by rw [← hm]; omega)]
    rw [Int.natCast_mul, Int.mul_assoc, Int.mul_comm (m : Int)]
  · rw [Int.natAbs_mul, Int.natAbs_natCast, hm, ← Nat.mul_assoc]
    exact Nat.mul_le_mul_right _ hB
theorem Zd.add {x y : Rat} {D A B : Nat} (h0 : 0 < D) (hx : Zd D A x) (hy : Zd D B y) : Zd D (A + B) (x + y) := by
  obtain ⟨t, e1, b1⟩ := over_common h0 hx.dvd
  obtain ⟨u, e2, b2⟩ := over_common h0 hy.dvd
  have c1 := b1 A hx.le
  have c2 := b2 B hy.le
  rw [e1, e2, add_same (by omega : ((D : Nat) : Int) ≠ 0)]
  refine Zd.divInt (by omega) (by rw [Int.natAbs_natCast]; exact Nat.dvd_refl _) ?_
  rw [Int.natAbs_natCast, Nat.add_mul]
  exact Nat.le_trans (Int.natAbs_add_le _ _) (Nat.add_le_add c1 c2)
theorem Zd.neg {x : Rat} {D A : Nat} (h : Zd D A x) : Zd D A (-x) := ⟨by rw [Rat.neg_den]; exact h.dvd, by rw [Rat.neg_num, Rat.neg_den, Int.natAbs_neg]; exact h.le⟩
theorem Zd.sub {x y : Rat} {D A B : Nat} (h0 : 0 < D) (hx : Zd D A x) (hy : Zd D B y) : Zd D (A + B) (x - y) := by
  rw [Rat.sub_eq_add_neg]; exact hx.add h0 hy.neg
theorem Zd.mul {x y : Rat} {D E A B : Nat} (hx : Zd D A x) (hy : Zd E B y) : Zd (D * E) (A * B) (x * y) := by
  have hd : ((x.den : Int) * y.den) ≠ 0 := Int.mul_ne_zero (den_ne x) (den_ne y)
  rw [← mul_divInt]
  refine Zd.divInt hd (by rw [Int.natAbs_mul, Int.natAbs_natCast, Int.natAbs_natCast]; exact Nat.mul_dvd_mul hx.dvd hy.dvd) ?_
  rw [Int.natAbs_mul, Int.natAbs_mul, Int.natAbs_natCast, Int.natAbs_natCast]
  have := Nat.mul_le_mul hx.le hy.le
  calc _ ≤ _ := this
    _ = _ := by ac_rfl
theorem Zd.sum {D B : Nat} (h0 : 0 < D) : ∀ (qs : List Rat) (acc : Rat) (A : Nat), Zd D A acc → (∀ q ∈ qs, Zd D B q) → Zd D (A + qs.length * B) (qs.foldl (· + ·) acc)
  | [], acc, A, h, _ => by simpa using h
  | q :: qs, acc, A, h, hz => by
    have := Zd.sum h0 qs (acc + q) (A + B) (h.add h0 (hz q List.mem_cons_self)) (fun y hy => hz y (List.mem_cons_of_mem _ hy))
    refine this.mono (Nat.dvd_refl _) ?_
    rw [List.length_cons, Nat.add_mul]; omega
theorem Zd.zero {D : Nat} : Zd D 0 0 := ⟨Nat.one_dvd _, by decide⟩
theorem Zd.sumz {D B : Nat} (h0 : 0 < D) {qs : List Rat} (h : ∀ q ∈ qs, Zd D B q) : Zd D (qs.length * B) (PC.sumQ qs) := by
  have := Zd.sum h0 qs 0 0 Zd.zero h
  rwa [Nat.zero_add] at this
/-- such fractions are small enough for sums and products of two -/
structure Sm (D B : Nat) : Prop where
  pos : 0 < D
  top : B * D ≤ 2 ^ 3990
  bot : D ≤ 2 ^ 3990
theorem Zd.sm {D B : Nat} {q : Rat} (h : Zd D B q) (s : Sm D B) : Zb q 3990 := h.zb s.pos s.top s.bot
theorem sum_loopZ {D B N : Nat} (s : Sm D (N * B + B)) (mu : List MO) (l : PV) : ∀ (qs : List Rat) (acc : Rat) (n : Nat) (o : Option SV), Zd D (n * B) acc → (∀ q ∈ qs, Zd D B q) → n + qs.length ≤ N →
    ∃ o', forL (gN 2) (dSet 1 (dFnS F_w_plus (dCons (dVar 1) (dCons (dVar 2) dNil)))) (qs.map fr) ⟨[some (.val l), some (.val (fr acc)), o], mu⟩ = .ok .nx ⟨[some (.val l), some (.val (fr (qs.foldl (· + ·) acc))), o'], mu⟩
  | [], acc, n, o, _, _, _ => ⟨o, rfl⟩
  | q :: qs, acc, n, o, h1, h2, h3 => by
    have hq := h2 q List.mem_cons_self
    simp only [List.length_cons] at h3
    have l1 : n * B ≤ N * B + B := Nat.le_trans (Nat.mul_le_mul_right _ (by omega)) (Nat.le_add_right _ _)
    have e := e_plus ((h1.mono (Nat.dvd_refl _) l1).sm s) ((hq.mono (Nat.dvd_refl _) (Nat.le_add_left _ _)).sm s) (by omega) mu
    obtain ⟨o', ih⟩ := sum_loopZ s mu l qs (acc + q) (n + 1) (some (.val (fr q))) (by rw [Nat.add_mul, Nat.one_mul]; exact h1.add s.pos hq) (fun y hy => h2 y (List.mem_cons_of_mem _ hy)) (by omega)
    refine ⟨o', ?_⟩
    simp only [List.map_cons, forL, gN, tgt, setE, List.set, dSet, dFnS, dCons, dVar, dNil, R.bind, List.getElem?_cons_zero, List.getElem?_cons_succ, e]
    exact ih
theorem z_sum {D B N : Nat} (s : Sm D (N * B + B)) {qs : List Rat} (h : ∀ q ∈ qs, Zd D B q) (hn : qs.length ≤ N) (mu : List MO) : F_w_sum [.lst (qs.map fr)] mu = .ok (fr (sumQ qs)) mu := by
  obtain ⟨o', e⟩ := sum_loopZ s mu (.lst (qs.map fr)) qs 0 0 none (by simpa using Zd.zero) h (by omega)
  have f0 : (PV.tup [.int 0, .int 1]) = fr 0 := rfl
  simp [F_w_sum, runBody, d_w_sum, f0, e, sumQ]
theorem lcm_dvd {D : Nat} : ∀ (qs : List Rat) (L : Nat), L ∣ D → (∀ q ∈ qs, q.den ∣ D) → qs.foldl (fun l q => Nat.lcm l q.den) L ∣ D
  | [], L, h, _ => h
  | q :: qs, L, h, hz => lcm_dvd qs _ (Nat.lcm_dvd h (hz q List.mem_cons_self)) fun y hy => hz y (List.mem_cons_of_mem _ hy)
theorem z_common {D B : Nat} (s : Sm D B) {qs : List Rat} (hz : ∀ q ∈ qs, Zd D B q) (hn : qs.length ≤ 10000) (mu : List MO) :
    F_common [.lst (qs.map .rat)] mu = .ok (.tup [.lst ((tops (lcmD qs) qs).map .int), .int (lcmD qs : Nat)]) mu ∧ 0 < lcmD qs ∧ lcmD qs ∣ D ∧ ∀ q ∈ qs, q.den ∣ lcmD qs := by
  have hdv : ∀ q ∈ qs, q.den ∣ D := fun q hq => (hz q hq).dvd
  have hD := s.pos
  have key : ∀ (qs : List Rat) (L : Nat) (o : Option SV) (l : PV), 0 < L → L ∣ D → (∀ q ∈ qs, Zd D B q) →
      ∃ o', forL (gN 2) (dSet 1 (dBin gMul (dBin gFdiv (dVar 1) (dFnS F_common_divisor (dCons (dVar 1) (dCons (dUn fBot (dVar 2)) dNil)))) (dUn fBot (dVar 2)))) (qs.map .rat) ⟨[some (.val l), some (.val (.int L)), o], mu⟩ =
        .ok .nx ⟨[some (.val l), some (.val (.int (qs.foldl (fun l q => Nat.lcm l q.den) L : Nat))), o'], mu⟩ ∧ 0 < qs.foldl (fun l q => Nat.lcm l q.den) L ∧ L ∣ qs.foldl (fun l q => Nat.lcm l q.den) L ∧ ∀ q ∈ qs, q.den ∣ qs.foldl (fun l q => Nat.lcm l q.den) L := by
    intro qs
    induction qs with
    | nil => exact fun L o l h0 _ _ => ⟨o, rfl, h0, Nat.dvd_refl _, by simp⟩
    | cons q qs ih =>
      intro L o l h0 h1 hz
      have hq := hz q List.mem_cons_self
      have hd := q.den_pos
      obtain ⟨o', e1, e2, e4, e5⟩ := ih (Nat.lcm L q.den) (some (.val (.rat q))) l (Nat.lcm_pos h0 hd) (Nat.lcm_dvd h1 hq.dvd) (fun y hy => hz y (List.mem_cons_of_mem _ hy))
      have hqz := hq.sm s
      refine ⟨o', ?_, e2, Nat.dvd_trans (Nat.dvd_lcm_left ..) e4, fun y hy => ?_⟩
      · have hg0 : 0 < Nat.gcd L q.den := Nat.gcd_pos_of_pos_left _ h0
        have hg : (0 : Int) < (Nat.gcd L q.den : Int) := by omega
        have hL2 : L ≤ 2 ^ 3990 := Nat.le_trans (Nat.le_of_dvd hD h1) s.bot
        have hgb : ib (Nat.gcd L q.den : Int) ≤ 9000 := by
          have h2 : Nat.gcd L q.den ≤ q.den := Nat.le_of_dvd hd (Nat.gcd_dvd_right ..)
          have := ib_le (i := (Nat.gcd L q.den : Int)) (b := 3990) (by rw [Int.natAbs_natCast]; exact Nat.le_trans h2 hqz.2)
          omega
        have hm : ib ((L : Int) / (Nat.gcd L q.den : Int)) + ib (q.den : Int) ≤ 1000000 := by
          have h2 := ib_le (i := (L : Int) / (Nat.gcd L q.den : Int)) (b := 3990) (by
            rw [← Int.natCast_ediv, Int.natAbs_natCast]
            exact Nat.le_trans (Nat.div_le_self ..) hL2)
          have := hqz.ib_den
          omega
        have hL : (L : Int) / (Nat.gcd L q.den : Int) * (q.den : Int) = ((Nat.lcm L q.den : Nat) : Int) := by
          rw [← Int.natCast_ediv, ← Int.natCast_mul]
          congr 1
          unfold Nat.lcm
          rw [Nat.mul_comm, Nat.mul_comm L q.den, Nat.mul_div_assoc _ (Nat.gcd_dvd_left ..)]
        have ecd : F_common_divisor [.int (L : Int), .int (q.den : Int)] mu = .ok (.int (Nat.gcd L q.den : Nat)) mu := e_cd _ _ mu
        rw [List.map_cons]
        conv => lhs; unfold forL
        simp [ecd, hg, hg0, hgb, hm, hL]
        simpa using e1
      · rcases List.mem_cons.mp hy with z | z
        · rw [z]; exact Nat.dvd_trans (Nat.dvd_lcm_right ..) e4
        · exact e5 y z
  obtain ⟨o', e1, e2, e4, e5⟩ := key qs 1 none (.lst (qs.map .rat)) (by decide) (Nat.one_dvd _) hz
  have hdvd : lcmD qs ∣ D := lcm_dvd qs 1 (Nat.one_dvd _) hdv
  have hlc : lcmD qs ≤ 2 ^ 3990 := Nat.le_trans (Nat.le_of_dvd hD hdvd) s.bot
  refine ⟨?_, e2, hdvd, e5⟩
  have e6 := compL_map (t := gN 2) (tt := dYes) (te := dBin gMul (dUn fTop (dVar 2)) (dBin gFdiv (dVar 1) (dUn fBot (dVar 2)))) (vs := [2]) (s0 := ⟨[some (.val (.lst (qs.map PV.rat))), some (.val (.int (lcmD qs : Nat))), none], mu⟩)
    (f := fun p => match p with | .rat q => .int (q.num * (((lcmD qs : Nat) : Int) / (q.den : Int))) | _ => .non) (qs.map .rat) [] (fun x hx => by
      obtain ⟨q, hq, rfl⟩ := List.mem_map.mp hx
      refine ⟨_, ⟨[some (.val (.lst (qs.map PV.rat))), some (.val (.int (lcmD qs : Nat))), some (.val (.rat q))], mu⟩, rfl, rfl, ?_, rfl⟩
      have hd := q.den_pos
      have hdi : (0 : Int) < (q.den : Int) := by omega
      have hqz := (hz q hq).sm s
      have h9 : ib (q.den : Int) ≤ 9000 := by have := hqz.ib_den; omega
      have hm : ib q.num + ib (((lcmD qs : Nat) : Int) / (q.den : Int)) ≤ 1000000 := by
        have h1 := hqz.ib_num
        have h2 := ib_le (i := ((lcmD qs : Nat) : Int) / (q.den : Int)) (b := 3990) (by
          rw [← Int.natCast_ediv, Int.natAbs_natCast]
          exact Nat.le_trans (Nat.div_le_self ..) hlc)
        omega
      simp [hd, hdi, h9, hm]) (by simp; omega)
  have e7 : (qs.map PV.rat).map (fun p => match p with | .rat q => PV.int (q.num * (((lcmD qs : Nat) : Int) / (q.den : Int))) | _ => .non) = (tops (lcmD qs) qs).map .int := by
    unfold tops; rw [List.map_map, List.map_map]; rfl
  rw [e7] at e6
  have e1' : forL (gN 2) (dSet 1 (dBin gMul (dBin gFdiv (dVar 1) (dFnS F_common_divisor (dCons (dVar 1) (dCons (dUn fBot (dVar 2)) dNil)))) (dUn fBot (dVar 2)))) (qs.map .rat) ⟨[some (.val (.lst (qs.map PV.rat))), some (.val (.int 1)), none], mu⟩ = .ok .nx ⟨[some (.val (.lst (qs.map PV.rat))), some (.val (.int (lcmD qs : Nat))), o'], mu⟩ := e1
  simp [F_common, runBody, d_common, e1', e6, wipeE]
theorem Sm.le {D B D' B' : Nat} (s : Sm D B) (h1 : 0 < D') (h2 : D' ≤ D) (h3 : B' ≤ B) : Sm D' B' := ⟨h1, Nat.le_trans (Nat.mul_le_mul h3 h2) s.top, Nat.le_trans h2 s.bot⟩
end PD
namespace PD
open PySem L3 LD PC
theorem sub_divInt (x y : Rat) : Rat.divInt (x.num * y.den - y.num * x.den) (x.den * y.den) = x - y := by
  rw [Rat.sub_eq_add_neg, ← add_divInt]
  rw [Rat.neg_num, Rat.neg_den]
  congr 1
  rw [Int.neg_mul, Int.sub_eq_add_neg]
theorem e_minus {x y : Rat} {a b : Nat} (h1 : Zb x a) (h2 : Zb y b) (hab : a + b ≤ 8000) (mu : List MO) : F_w_minus [fr x, fr y] mu = .ok (fr (x - y)) mu := by
  have hd : ((x.den : Int) * y.den) ≠ 0 := Int.mul_ne_zero (den_ne x) (den_ne y)
  have h9 : ib ((x.den : Int) * y.den) ≤ 9000 := by
    have := ib_mul (i := (x.den : Int)) (j := (y.den : Int)) (a := a) (b := b) (by rw [Int.natAbs_natCast]; exact h1.2) (by rw [Int.natAbs_natCast]; exact h2.2)
    omega
  have c1 : ib x.num + ib (y.den : Int) ≤ 1000000 := by have := h1.ib_num; have := h2.ib_den; omega
  have c2 : ib y.num + ib (x.den : Int) ≤ 1000000 := by have := h2.ib_num; have := h1.ib_den; omega
  have c3 : ib (x.den : Int) + ib (y.den : Int) ≤ 1000000 := by have := h2.ib_den; have := h1.ib_den; omega
  have h := e_low (x.num * y.den - y.num * x.den) (x.den * y.den) mu hd h9
  rw [sub_divInt] at h
  simp [F_w_minus, runBody, d_w_minus, fr, c1, c2, c3]
  rw [h]; rfl
theorem e_times {x y : Rat} {a b : Nat} (h1 : Zb x a) (h2 : Zb y b) (hab : a + b ≤ 8000) (mu : List MO) : F_w_times [fr x, fr y] mu = .ok (fr (x * y)) mu := by
  have hd : ((x.den : Int) * y.den) ≠ 0 := Int.mul_ne_zero (den_ne x) (den_ne y)
  have h9 : ib ((x.den : Int) * y.den) ≤ 9000 := by
    have := ib_mul (i := (x.den : Int)) (j := (y.den : Int)) (a := a) (b := b) (by rw [Int.natAbs_natCast]; exact h1.2) (by rw [Int.natAbs_natCast]; exact h2.2)
    omega
  have c1 : ib x.num + ib y.num ≤ 1000000 := by have := h1.ib_num; have := h2.ib_num; omega
  have c3 : ib (x.den : Int) + ib (y.den : Int) ≤ 1000000 := by have := h2.ib_den; have := h1.ib_den; omega
  have h := e_low (x.num * y.num) (x.den * y.den) mu hd h9
  rw [mul_divInt] at h
  simp [F_w_times, runBody, d_w_times, fr, c1, c3]
  rw [h]; rfl
theorem Zd.pow {x : Rat} {D B : Nat} (h : Zd D B x) : ∀ n : Nat, Zd (D ^ n) (B ^ n) (x ^ n)
  | 0 => by
    rw [Nat.pow_zero, Nat.pow_zero, Rat.pow_zero]
    exact Zd.int (i := 1) (by decide)
  | n + 1 => by
    rw [Nat.pow_succ, Nat.pow_succ, Rat.pow_succ]
    exact (Zd.pow h n).mul h
theorem Zd.powle {x : Rat} {D B K : Nat} (h : Zd D B x) (h1 : 0 < B) {n : Nat} (hn : n ≤ K) : Zd (D ^ K) (B ^ K) (x ^ n) := (Zd.pow h n).mono (Nat.pow_dvd_pow _ hn) (Nat.pow_le_pow_right h1 hn)
theorem fr_one : fr 1 = .tup [.int 1, .int 1] := rfl
theorem power_loop {x : Rat} {z : Nat} {a : Nat} (h : Zb x z) (hp : ∀ j ≤ a, Zb (x ^ j) z) (hz : z ≤ 4000) (mu : List MO) (k : PV) : ∀ (n j : Nat) (i0 : Int) (o : Option SV), j + n ≤ a →
    ∃ o', forL (gN 3) b_w_power_1 ((List.range n).map fun (k : Nat) => .int (i0 + (k : Int))) ⟨[some (.val (fr x)), some (.val k), some (.val (fr (x ^ j))), o], mu⟩ = .ok .nx ⟨[some (.val (fr x)), some (.val k), some (.val (fr (x ^ (j + n)))), o'], mu⟩ := by
  intro n
  induction n with
  | zero => exact fun j i0 o _ => ⟨o, rfl⟩
  | succ n ih =>
    intro j i0 o hj
    have e := e_times (hp j (by omega)) h (by omega) mu
    rw [← Rat.pow_succ] at e
    obtain ⟨o', e2⟩ := ih (j + 1) (i0 + 1) (some (.val (.int i0))) (by omega)
    refine ⟨o', ?_⟩
    rw [List.range_succ_eq_map, List.map_cons, List.map_map]
    have e3 : (List.range n).map ((fun (k : Nat) => PV.int (i0 + (k : Int))) ∘ Nat.succ) = (List.range n).map fun (k : Nat) => .int (i0 + 1 + (k : Int)) := by
      refine List.map_congr_left fun k _ => ?_
      show PV.int (i0 + ((k + 1 : Nat) : Int)) = _
      congr 1
      omega
    rw [e3]
    unfold forL b_w_power_1
    simp [e]
    unfold b_w_power_1 at e2
    simpa [Nat.add_assoc, Nat.add_comm 1 n] using e2
theorem e_power {x : Rat} {z : Nat} {i : Int} (h : Zb x z) (hp : ∀ j ≤ i.toNat, Zb (x ^ j) z) (hz : z ≤ 4000) (h0 : 0 ≤ i) (ha : i ≤ 1000) (mu : List MO) : F_w_power [fr x, .int i] mu = .ok (fr (x ^ i.toNat)) mu := by
  obtain ⟨o', e⟩ := power_loop h hp hz mu (.int i) i.toNat 0 0 none (by omega)
  have hb : (-4611686018427387904 : Int) ≤ i ∧ i < 4611686018427387904 := by omega
  rw [Rat.pow_zero, Nat.zero_add, fr_one] at e
  have er : rangeP 0 i.toNat = (List.range i.toNat).map fun (k : Nat) => PV.int (0 + (k : Int)) := rfl
  rw [← er] at e
  simp [F_w_power, runBody, d_w_power, hb, e]
theorem e_mul {x y : Rat} {p : PV} {a b : Nat} (h1 : Zb x a) (h2 : Zb y b) (hp : Is y p) (hab : a + b ≤ 8000) (mu : List MO) : F_Ratio___mul__ [.rat x, p] mu = .ok (.rat (x * y)) mu := by
  have hd : ((x.den : Int) * y.den) ≠ 0 := Int.mul_ne_zero (den_ne x) (den_ne y)
  have h9 : okR (x.num * y.num) ((x.den : Int) * y.den) = true := by
    have := ib_mul (i := (x.den : Int)) (j := (y.den : Int)) (a := a) (b := b) (by rw [Int.natAbs_natCast]; exact h1.2) (by rw [Int.natAbs_natCast]; exact h2.2)
    exact decide_eq_true (by omega)
  have c1 : ib x.num + ib y.num ≤ 1000000 := by have := h1.ib_num; have := h2.ib_num; omega
  have c3 : ib (x.den : Int) + ib (y.den : Int) ≤ 1000000 := by have := h2.ib_den; have := h1.ib_den; omega
  have e2 := e_ratio_of hp mu
  have hx : ¬ x.den = 0 := x.den_nz
  have hy : ¬ y.den = 0 := y.den_nz
  rw [← mul_divInt]
  simp [F_Ratio___mul__, runBody, d_Ratio___mul__, e2, c1, c3, h9, hx, hy]
theorem rat_eq (x y : Rat) : (decide (x = y)) = ((x.num == y.num) && ((x.den : Int) == (y.den : Int))) := by
  by_cases h : x = y
  · subst h; simp
  · rw [decide_eq_false h]
    by_cases h1 : x.num = y.num
    · have h2 : ¬ x.den = y.den := fun h2 => h (Rat.ext h1 h2)
      have h3 : ((x.den : Int) == (y.den : Int)) = false := by
        rw [beq_eq_false_iff_ne]; exact fun z => h2 (by omega)
      rw [h3, Bool.and_false]
    · have h3 : (x.num == y.num) = false := by rw [beq_eq_false_iff_ne]; exact h1
      rw [h3, Bool.false_and]
theorem e_eq {x y : Rat} {p : PV} (hp : Is y p) (mu : List MO) : F_Ratio___eq__ [.rat x, p] mu = .ok (.bl (decide (x = y))) mu := by
  have e1 := e_is_number hp mu
  have e2 := e_ratio_of hp mu
  rw [rat_eq]
  by_cases h1 : x.num = y.num
  · have h3 : (x.num == y.num) = true := by simpa using h1
    simp [F_Ratio___eq__, runBody, d_Ratio___eq__, e1, e2, h3]
  · have h3 : (x.num == y.num) = false := by simpa using h1
    simp [F_Ratio___eq__, runBody, d_Ratio___eq__, e1, e2, h3]
end PD
namespace Gk38
open PySem PySem.Spec PyProof.Rows L2 L3 LD
structure Fs (K : PySem.W.Frag) (mg : Str → Option Value) (CR : Addr) : Prop where
  n_abs : mg "abs" = none
  n_bool : mg "bool" = none
  n_enumerate : mg "enumerate" = none
  n_int : mg "int" = none
  n_isinstance : mg "isinstance" = none
  n_len : mg "len" = none
  n_list : mg "list" = none
  n_max : mg "max" = none
  n_min : mg "min" = none
  n_range : mg "range" = none
  n_sum : mg "sum" = none
  n_super : mg "super" = none
  n_tuple : mg "tuple" = none
  n_zip : mg "zip" = none
  mR : mg "Ratio" = some (.ref CR)
  T : ClsR K CR
  I : IsiR K CR
  F_own_top : ClsF K [CR] "own_top"
  F_own_bottom : ClsF K [CR] "own_bottom"
  C0 : CiN K CR ["Summary", "Moments"]
  FN_own_kind : ClsFN K ["Summary", "Moments"] "own_kind"
  FN_own_many : ClsFN K ["Summary", "Moments"] "own_many"
  FN_own_order : ClsFN K ["Moments"] "own_order"
  FN_own_sums : ClsFN K ["Moments"] "own_sums"
  c_LEAST_ORDER : ∃ t, mg "LEAST_ORDER" = some (.int 2 t)
  c_MOST_ORDER : ∃ t, mg "MOST_ORDER" = some (.int 8 t)
section
variable {P : Program} {w : World} {K : PySem.W.Frag} {mg : Str → Option Value} {base : Heap} {CR : Addr}
theorem sc_BadAmount___init__ : FnScope ["self", "value"] ["self", "value"] (defScope s_BadAmount___init__) := ⟨rfl, rfl, rfl, by decide +kernel, rfl, by decide +kernel, by decide +kernel⟩
theorem sc_BadNumber___init__ : FnScope ["self", "value"] ["self", "value"] (defScope s_BadNumber___init__) := ⟨rfl, rfl, rfl, by decide +kernel, rfl, by decide +kernel, by decide +kernel⟩
theorem sc_w_source : FnScope ["_law_script", "_law_k", "_law_cell"] ["_law_script", "_law_k"] (defScope s_w_source) := ⟨rfl, rfl, rfl, by decide +kernel, rfl, by decide +kernel, by decide +kernel⟩
theorem ok_w_source (E : Fs K mg CR)  {f : Addr} {fd : FuncData} (F : FunD K "_law_source" "_law_source" (defArgs s_w_source) (defBody s_w_source) (defScope s_w_source) [] [] f fd) : FJ P w K mg base CR 1 f fd ["_law_script", "_law_k"] (runBody 3 d_w_source) :=
  jf_fn F sc_w_source fun cdv A outer s H E' Nn hr => by
    have nd := sc_w_source.nd
    have hu := hr.units
    exact (js_cons (js_set (i := 2) nd (j_if (jt_cmp (o_neA hu) (jv 0) (j_lst ja_nil)) (j_ix (jv 0) (j_bin o_mod (jv 1) (j_callB c_len rfl E.n_len (by decide +kernel) (ja_cons (jv 0) ja_nil)))) j_int)) (js_one (js_ret (j_new (jf_lst (ja_cons (jv 2) (ja_cons (j_bin o_mul j_int (jv 1)) (ja_cons (j_if (jt_cmp o_geI (jv 2) (j_bin o_pow j_int j_int)) (j_bin o_fdiv (jv 2) (j_bin o_pow j_int j_int)) j_int) ja_nil))))))))
theorem sc_w_next : FnScope ["_law_source_here", "_law_many", "_law_primes", "_law_prime", "_law_found"] ["_law_source_here", "_law_many"] (defScope s_w_next) := ⟨rfl, rfl, rfl, by decide +kernel, rfl, by decide +kernel, by decide +kernel⟩
theorem ok_w_next (E : Fs K mg CR)  {f : Addr} {fd : FuncData} (F : FunD K "_law_next" "_law_next" (defArgs s_w_next) (defBody s_w_next) (defScope s_w_next) [] [] f fd) : FJ P w K mg base CR 1 f fd ["_law_source_here", "_law_many"] (runBody 5 d_w_next) :=
  jf_fn F sc_w_next fun cdv A outer s H E' Nn hr => by
    have nd := sc_w_next.nd
    have hu := hr.units
    exact (js_cons (js_if (jt_cmp o_gtI (j_ix (jv 0) j_int) j_int) (js_cons (js_set (i := 4) nd (j_bin o_mod (j_ix (jv 0) j_int) (jv 1))) (js_cons (js_put (i := 0) (j_bin o_fdiv (j_ix (jv 0) j_int) (jv 1)) j_int) (js_one (js_ret (jv 4))))) js_nil) (js_cons (js_put (i := 0) (j_bin o_add (j_ix (jv 0) j_int) j_int) j_int) (js_cons (js_set (i := 2) nd (j_lst (ja_cons j_int (ja_cons j_int (ja_cons j_int (ja_cons j_int (ja_cons j_int (ja_cons j_int (ja_cons j_int (ja_cons j_int ja_nil)))))))))) (js_cons (js_set (i := 3) nd (j_ix (j_bin o_add (jv 2) (j_lst (ja_cons j_int (ja_cons j_int (ja_cons j_int ja_nil))))) (j_bin o_mod (j_ix (jv 0) j_int) j_int))) (js_one (js_ret (j_bin o_mod (j_bin o_fdiv (j_bin o_mod (j_bin o_pow (j_bin o_add (j_bin o_add (j_bin o_mod (j_ix (jv 0) j_int) (jv 3)) (j_bin o_mul j_int (j_ix (jv 0) j_int))) j_int) j_int) (jv 3)) j_int) (jv 1))))))))
theorem sc_w_pick : FnScope ["_law_source_here", "_law_items"] ["_law_source_here", "_law_items"] (defScope s_w_pick) := ⟨rfl, rfl, rfl, by decide +kernel, rfl, by decide +kernel, by decide +kernel⟩
theorem ok_w_pick (E : Fs K mg CR) (h_w_next : Has P w K mg base CR "_law_next" 1 ["_law_source_here", "_law_many"] F_w_next) {f : Addr} {fd : FuncData} (F : FunD K "_law_pick" "_law_pick" (defArgs s_w_pick) (defBody s_w_pick) (defScope s_w_pick) [] [] f fd) : FJ P w K mg base CR 2 f fd ["_law_source_here", "_law_items"] (runBody 2 d_w_pick) :=
  jf_fn F sc_w_pick fun cdv A outer s H E' Nn hr => by
    have nd := sc_w_pick.nd
    have hu := hr.units
    exact (js_one (js_ret (j_ix (jv 1) (j_callH h_w_next (hr.mono (by decide)) (takes_of rfl rfl rfl (E₁ := _) rfl) (ja_cons (jv 0) (ja_cons (j_callB c_len rfl E.n_len (by decide +kernel) (ja_cons (jv 1) ja_nil)) ja_nil))))))
theorem sc_w_low : FnScope ["_law_top", "_law_bottom", "_law_one", "_law_other"] ["_law_top", "_law_bottom"] (defScope s_w_low) := ⟨rfl, rfl, rfl, by decide +kernel, rfl, by decide +kernel, by decide +kernel⟩
theorem ok_w_low (E : Fs K mg CR)  {f : Addr} {fd : FuncData} (F : FunD K "_law_low" "_law_low" (defArgs s_w_low) (defBody s_w_low) (defScope s_w_low) [] [] f fd) : FJ P w K mg base CR 1 f fd ["_law_top", "_law_bottom"] (runBody 4 d_w_low) :=
  jf_fn F sc_w_low fun cdv A outer s H E' Nn hr => by
    have nd := sc_w_low.nd
    have hu := hr.units
    exact (js_cons (js_par2 rfl nd (ja_cons (j_callB c_abs rfl E.n_abs (by decide +kernel) (ja_cons (jv 0) ja_nil)) (ja_cons (j_callB c_abs rfl E.n_abs (by decide +kernel) (ja_cons (jv 1) ja_nil)) ja_nil))) (js_cons (js_while (fuel := (fuI 3)) (passes_of rfl) (jt_cmp (o_neA hu) (jv 3) j_int) (js_one (js_par2 rfl nd (ja_cons (jv 3) (ja_cons (j_bin o_mod (jv 2) (jv 3)) ja_nil))))) (js_one (js_ret (j_if (jt_cmp o_gtI (jv 1) j_int) (j_tup (ja_cons (j_bin o_fdiv (jv 0) (jv 2)) (ja_cons (j_bin o_fdiv (jv 1) (jv 2)) ja_nil))) (j_tup (ja_cons (j_bin o_sub j_int (j_bin o_fdiv (jv 0) (jv 2))) (ja_cons (j_bin o_sub j_int (j_bin o_fdiv (jv 1) (jv 2))) ja_nil))))))))
theorem sc_w_drawn : FnScope ["_law_source_here", "_law_way"] ["_law_source_here"] (defScope s_w_drawn) := ⟨rfl, rfl, rfl, by decide +kernel, rfl, by decide +kernel, by decide +kernel⟩
theorem ok_w_drawn (E : Fs K mg CR) (h_w_next : Has P w K mg base CR "_law_next" 1 ["_law_source_here", "_law_many"] F_w_next) (h_w_low : Has P w K mg base CR "_law_low" 1 ["_law_top", "_law_bottom"] F_w_low) {f : Addr} {fd : FuncData} (F : FunD K "_law_drawn" "_law_drawn" (defArgs s_w_drawn) (defBody s_w_drawn) (defScope s_w_drawn) [] [] f fd) : FJ P w K mg base CR 2 f fd ["_law_source_here"] (runBody 2 d_w_drawn) :=
  jf_fn F sc_w_drawn fun cdv A outer s H E' Nn hr => by
    have nd := sc_w_drawn.nd
    have hu := hr.units
    exact (js_cons (js_set (i := 1) nd (j_callH h_w_next (hr.mono (by decide)) (takes_of rfl rfl rfl (E₁ := _) rfl) (ja_cons (jv 0) (ja_cons j_int ja_nil)))) (js_cons (js_if (jt_cmp o_ltI (jv 1) j_int) (js_one (js_ret (j_tup (ja_cons (j_bin o_sub (j_callH h_w_next (hr.mono (by decide)) (takes_of rfl rfl rfl (E₁ := _) rfl) (ja_cons (jv 0) (ja_cons j_int ja_nil))) j_int) (ja_cons j_int ja_nil))))) js_nil) (js_one (js_ret (j_callH h_w_low (hr.mono (by decide)) (takes_of rfl rfl rfl (E₁ := _) rfl) (ja_cons (j_bin o_sub (j_callH h_w_next (hr.mono (by decide)) (takes_of rfl rfl rfl (E₁ := _) rfl) (ja_cons (jv 0) (ja_cons j_int ja_nil))) j_int) (ja_cons (j_bin o_add j_int (j_callH h_w_next (hr.mono (by decide)) (takes_of rfl rfl rfl (E₁ := _) rfl) (ja_cons (jv 0) (ja_cons (j_if (jt_cmp (o_eqA hu) (jv 1) j_int) j_int j_int) ja_nil)))) ja_nil)))))))
theorem sc_w_row : FnScope ["_law_source_here", "_law_most", "_law_found", "_law_turn"] ["_law_source_here", "_law_most"] (defScope s_w_row) := ⟨rfl, rfl, rfl, by decide +kernel, rfl, by decide +kernel, by decide +kernel⟩
theorem ok_w_row (E : Fs K mg CR) (h_w_next : Has P w K mg base CR "_law_next" 1 ["_law_source_here", "_law_many"] F_w_next) (h_w_pick : Has P w K mg base CR "_law_pick" 2 ["_law_source_here", "_law_items"] F_w_pick) (h_w_drawn : Has P w K mg base CR "_law_drawn" 2 ["_law_source_here"] F_w_drawn) {f : Addr} {fd : FuncData} (F : FunD K "_law_row" "_law_row" (defArgs s_w_row) (defBody s_w_row) (defScope s_w_row) [] [] f fd) : FJ P w K mg base CR 3 f fd ["_law_source_here", "_law_most"] (runBody 4 d_w_row) :=
  jf_fn F sc_w_row fun cdv A outer s H E' Nn hr => by
    have nd := sc_w_row.nd
    have hu := hr.units
    exact (js_cons (js_own (i := 2) nd (jf_lst ja_nil)) (js_cons (js_for (passes_of rfl) rfl (ji_range1 (ja_cons (j_callH h_w_next (hr.mono (by decide)) (takes_of rfl rfl rfl (E₁ := _) rfl) (ja_cons (jv 0) (ja_cons (j_bin o_add (jv 1) j_int) ja_nil))) ja_nil) E.n_range) (jg_name 3 nd) (js_one (js_expr (j_app (i := 2) (j_bor (is := [2]) (j_if (jt_w (jw_and (jt_cmp (o_neA hu) (jv 2) (j_lst ja_nil)) (jw_and1 (jt_cmp (o_eqA hu) (j_callH h_w_next (hr.mono (by decide)) (takes_of rfl rfl rfl (E₁ := _) rfl) (ja_cons (jv 0) (ja_cons j_int ja_nil))) j_int)))) (j_callH h_w_pick (hr.mono (by decide)) (takes_of rfl rfl rfl (E₁ := _) rfl) (ja_cons (jv 0) (ja_cons (jv 2) ja_nil))) (j_callH h_w_drawn (hr.mono (by decide)) (takes_of rfl rfl rfl (E₁ := _) rfl) (ja_cons (jv 0) ja_nil)))))))) (js_one (js_frz (is := [2]) (js_ret (jv 2))))))
theorem sc_w_times : FnScope ["_law_one", "_law_other"] ["_law_one", "_law_other"] (defScope s_w_times) := ⟨rfl, rfl, rfl, by decide +kernel, rfl, by decide +kernel, by decide +kernel⟩
theorem ok_w_times (E : Fs K mg CR) (h_w_low : Has P w K mg base CR "_law_low" 1 ["_law_top", "_law_bottom"] F_w_low) {f : Addr} {fd : FuncData} (F : FunD K "_law_times" "_law_times" (defArgs s_w_times) (defBody s_w_times) (defScope s_w_times) [] [] f fd) : FJ P w K mg base CR 2 f fd ["_law_one", "_law_other"] (runBody 2 d_w_times) :=
  jf_fn F sc_w_times fun cdv A outer s H E' Nn hr => by
    have nd := sc_w_times.nd
    have hu := hr.units
    exact (js_one (js_ret (j_callH h_w_low (hr.mono (by decide)) (takes_of rfl rfl rfl (E₁ := _) rfl) (ja_cons (j_bin o_mul (j_ix (jv 0) j_int) (j_ix (jv 1) j_int)) (ja_cons (j_bin o_mul (j_ix (jv 0) j_int) (j_ix (jv 1) j_int)) ja_nil)))))
theorem sc_w_power : FnScope ["_law_value", "_law_many", "_law_found", "_law_turn"] ["_law_value", "_law_many"] (defScope s_w_power) := ⟨rfl, rfl, rfl, by decide +kernel, rfl, by decide +kernel, by decide +kernel⟩
theorem ok_w_power (E : Fs K mg CR) (h_w_times : Has P w K mg base CR "_law_times" 2 ["_law_one", "_law_other"] F_w_times) {f : Addr} {fd : FuncData} (F : FunD K "_law_power" "_law_power" (defArgs s_w_power) (defBody s_w_power) (defScope s_w_power) [] [] f fd) : FJ P w K mg base CR 3 f fd ["_law_value", "_law_many"] (runBody 4 d_w_power) :=
  jf_fn F sc_w_power fun cdv A outer s H E' Nn hr => by
    have nd := sc_w_power.nd
    have hu := hr.units
    exact (js_cons (js_set (i := 2) nd (j_tup (ja_cons j_int (ja_cons j_int ja_nil)))) (js_cons (js_for (passes_of rfl) rfl (ji_range1 (ja_cons (jv 1) ja_nil) E.n_range) (jg_name 3 nd) (js_one (js_set (i := 2) nd (j_callH h_w_times (hr.mono (by decide)) (takes_of rfl rfl rfl (E₁ := _) rfl) (ja_cons (jv 2) (ja_cons (jv 0) ja_nil)))))) (js_one (js_ret (jv 2)))))
theorem sc_w_plus : FnScope ["_law_one", "_law_other"] ["_law_one", "_law_other"] (defScope s_w_plus) := ⟨rfl, rfl, rfl, by decide +kernel, rfl, by decide +kernel, by decide +kernel⟩
theorem ok_w_plus (E : Fs K mg CR) (h_w_low : Has P w K mg base CR "_law_low" 1 ["_law_top", "_law_bottom"] F_w_low) {f : Addr} {fd : FuncData} (F : FunD K "_law_plus" "_law_plus" (defArgs s_w_plus) (defBody s_w_plus) (defScope s_w_plus) [] [] f fd) : FJ P w K mg base CR 2 f fd ["_law_one", "_law_other"] (runBody 2 d_w_plus) :=
  jf_fn F sc_w_plus fun cdv A outer s H E' Nn hr => by
    have nd := sc_w_plus.nd
    have hu := hr.units
    exact (js_one (js_ret (j_callH h_w_low (hr.mono (by decide)) (takes_of rfl rfl rfl (E₁ := _) rfl) (ja_cons (j_bin o_add (j_bin o_mul (j_ix (jv 0) j_int) (j_ix (jv 1) j_int)) (j_bin o_mul (j_ix (jv 1) j_int) (j_ix (jv 0) j_int))) (ja_cons (j_bin o_mul (j_ix (jv 0) j_int) (j_ix (jv 1) j_int)) ja_nil)))))
theorem sc_w_sum : FnScope ["_law_some", "_law_found", "_law_one"] ["_law_some"] (defScope s_w_sum) := ⟨rfl, rfl, rfl, by decide +kernel, rfl, by decide +kernel, by decide +kernel⟩
theorem ok_w_sum (E : Fs K mg CR) (h_w_plus : Has P w K mg base CR "_law_plus" 2 ["_law_one", "_law_other"] F_w_plus) {f : Addr} {fd : FuncData} (F : FunD K "_law_sum" "_law_sum" (defArgs s_w_sum) (defBody s_w_sum) (defScope s_w_sum) [] [] f fd) : FJ P w K mg base CR 3 f fd ["_law_some"] (runBody 3 d_w_sum) :=
  jf_fn F sc_w_sum fun cdv A outer s H E' Nn hr => by
    have nd := sc_w_sum.nd
    have hu := hr.units
    exact (js_cons (js_set (i := 1) nd (j_tup (ja_cons j_int (ja_cons j_int ja_nil)))) (js_cons (js_for (passes_of rfl) rfl (ji_seq (jv 0)) (jg_name 2 nd) (js_one (js_set (i := 1) nd (j_callH h_w_plus (hr.mono (by decide)) (takes_of rfl rfl rfl (E₁ := _) rfl) (ja_cons (jv 1) (ja_cons (jv 2) ja_nil)))))) (js_one (js_ret (jv 1)))))
theorem sc_w_powers : FnScope ["_law_some", "_law_most", "_law_k", "_law_one"] ["_law_some", "_law_most"] (defScope s_w_powers) := ⟨rfl, rfl, rfl, by decide +kernel, rfl, by decide +kernel, by decide +kernel⟩
theorem ok_w_powers (E : Fs K mg CR) (h_w_power : Has P w K mg base CR "_law_power" 3 ["_law_value", "_law_many"] F_w_power) (h_w_sum : Has P w K mg base CR "_law_sum" 3 ["_law_some"] F_w_sum) {f : Addr} {fd : FuncData} (F : FunD K "_law_powers" "_law_powers" (defArgs s_w_powers) (defBody s_w_powers) (defScope s_w_powers) [] [] f fd) : FJ P w K mg base CR 4 f fd ["_law_some", "_law_most"] (runBody 4 d_w_powers) :=
  jf_fn F sc_w_powers fun cdv A outer s H E' Nn hr => by
    have nd := sc_w_powers.nd
    have hu := hr.units
    exact (js_one (js_ret (j_ofF (jf_comp rfl nd (ji_range1 (ja_cons (jv 1) ja_nil) E.n_range) (own := [("_law_k", 2)]) (blkOk_by (by kernel_rfl)) (fun _ _ _ _ _ _ => (jg_name 2 nd)) (fun _ _ _ _ _ _ => jts_nil) (fun _ _ _ _ _ _ => (j_callH h_w_sum (hr.mono (by decide)) takes0 (ja_cons (j_ofF (jf_comp rfl nd (ji_seq (jv 0)) (own := [("_law_one", 3)]) (blkOk_by (by kernel_rfl)) (fun _ _ _ _ _ _ => (jg_name 3 nd)) (fun _ _ _ _ _ _ => jts_nil) (fun _ _ _ _ _ _ => (j_callH h_w_power (hr.mono (by decide)) takes0 (ja_cons (jv 3) (ja_cons (j_bin o_add (jv 2) j_int) ja_nil)))))) ja_nil)))))))
theorem sc_is_integer : FnScope ["value"] ["value"] (defScope s_is_integer) := ⟨rfl, rfl, rfl, by decide +kernel, rfl, by decide +kernel, by decide +kernel⟩
theorem ok_is_integer (E : Fs K mg CR)  {f : Addr} {fd : FuncData} (F : FunD K "is_integer" "is_integer" (defArgs s_is_integer) (defBody s_is_integer) (defScope s_is_integer) [] [] f fd) : FJ P w K mg base CR 1 f fd ["value"] (runBody 1 d_is_integer) :=
  jf_fn F sc_is_integer fun cdv A outer s H E' Nn hr => by
    have nd := sc_is_integer.nd
    have hu := hr.units
    exact (js_one (js_ret (j_and (j_isT E.I.kk E.I.int E.n_int (by decide +kernel) E.n_isinstance (jv 0)) (j_one (j_not (j_isT E.I.kk E.I.bool E.n_bool (by decide +kernel) E.n_isinstance (jv 0)))))))
theorem sc_need_amount : FnScope ["value", "least", "most"] ["value", "least", "most"] (defScope s_need_amount) := ⟨rfl, rfl, rfl, by decide +kernel, rfl, by decide +kernel, by decide +kernel⟩
theorem ok_need_amount (E : Fs K mg CR) (h_exc_BadAmount : HasE P w K mg base "BadAmount" "value" .ve) (h_is_integer : Has P w K mg base CR "is_integer" 1 ["value"] F_is_integer) {f : Addr} {fd : FuncData} (F : FunD K "need_amount" "need_amount" (defArgs s_need_amount) (defBody s_need_amount) (defScope s_need_amount) [] [] f fd) : FJ P w K mg base CR 3 f fd ["value", "least", "most"] (runBody 3 d_need_amount) :=
  jf_fn F sc_need_amount fun cdv A outer s H E' Nn hr => by
    have nd := sc_need_amount.nd
    have hu := hr.units
    exact (js_one (js_if (jt_w (jw_or (jt_not (jt (j_callH h_is_integer (hr.mono (by decide)) (takes_of rfl rfl rfl (E₁ := _) rfl) (ja_cons (jv 0) ja_nil)))) (jw_or (jt_cmp o_ltI (jv 0) (jv 1)) (jw_or1 (jt_w (jw_and (jt_cmp o_notN (jv 2) j_non) (jw_and1 (jt_cmp o_gtI (jv 0) (jv 2))))))))) (js_one (js_raise (k := 0) rfl h_exc_BadAmount (hr.mono (by decide)) (takes_of rfl rfl rfl (E₁ := _) rfl) (jv 0))) js_nil))
theorem sc_Summary___init__ : FnScope ["self", "kind", "many"] ["self", "kind", "many"] (defScope s_Summary___init__) := ⟨rfl, rfl, rfl, by decide +kernel, rfl, by decide +kernel, by decide +kernel⟩
theorem ok_Summary___init__ (E : Fs K mg CR)  {f : Addr} {fd : FuncData} (F : FunD K "__init__" "Summary.__init__" (defArgs s_Summary___init__) (defBody s_Summary___init__) (defScope s_Summary___init__) [] [] f fd) : FJ P w K mg base CR 1 f fd ["self", "kind", "many"] (runBody 3 d_Summary___init__) :=
  jf_fn F sc_Summary___init__ fun cdv A outer s H E' Nn hr => by
    have nd := sc_Summary___init__.nd
    have hu := hr.units
    exact (js_cons (js_fputN E.FN_own_kind (jv 0) (jv 1)) (js_one (js_fputN E.FN_own_many (jv 0) (jv 2))))
theorem sc_common_divisor : FnScope ["one", "other"] ["one", "other"] (defScope s_common_divisor) := ⟨rfl, rfl, rfl, by decide +kernel, rfl, by decide +kernel, by decide +kernel⟩
theorem ok_common_divisor (E : Fs K mg CR)  {f : Addr} {fd : FuncData} (F : FunD K "common_divisor" "common_divisor" (defArgs s_common_divisor) (defBody s_common_divisor) (defScope s_common_divisor) [] [] f fd) : FJ P w K mg base CR 1 f fd ["one", "other"] (runBody 2 d_common_divisor) :=
  jf_fn F sc_common_divisor fun cdv A outer s H E' Nn hr => by
    have nd := sc_common_divisor.nd
    have hu := hr.units
    exact (js_cons (js_par2 rfl nd (ja_cons (j_callB c_abs rfl E.n_abs (by decide +kernel) (ja_cons (jv 0) ja_nil)) (ja_cons (j_callB c_abs rfl E.n_abs (by decide +kernel) (ja_cons (jv 1) ja_nil)) ja_nil))) (js_cons (js_while (fuel := (fuI 1)) (passes_of rfl) (jt_cmp o_gtI (jv 1) j_int) (js_one (js_par2 rfl nd (ja_cons (jv 1) (ja_cons (j_bin o_mod (jv 0) (jv 1)) ja_nil))))) (js_one (js_ret (jv 0)))))
theorem sc_Ratio___init__ : FnScope ["self", "top", "bottom", "value", "divisor"] ["self", "top", "bottom"] (defScope s_Ratio___init__) := ⟨rfl, rfl, rfl, by decide +kernel, rfl, by decide +kernel, by decide +kernel⟩
theorem ok_Ratio___init__ (E : Fs K mg CR) (h_is_integer : Has P w K mg base CR "is_integer" 1 ["value"] F_is_integer) (h_common_divisor : Has P w K mg base CR "common_divisor" 1 ["one", "other"] F_common_divisor) {f : Addr} {fd : FuncData} (F : FunD K "__init__" "Ratio.__init__" (defArgs s_Ratio___init__) (defBody s_Ratio___init__) (defScope s_Ratio___init__) [.int 1] [] f fd) : FJ P w K mg base CR 2 f fd ["self", "top", "bottom"] (runBody 5 (d_Ratio___init__ CR)) :=
  jf_fn F sc_Ratio___init__ fun cdv A outer s H E' Nn hr => by
    have nd := sc_Ratio___init__.nd
    have hu := hr.units
    exact (js_cons (js_for (passes_of rfl) rfl (ji_seq (j_tup (ja_cons (jv 1) (ja_cons (jv 2) ja_nil)))) (jg_name 3 nd) (js_one (js_if (jt_not (jt (j_callH h_is_integer (hr.mono (by decide)) (takes_of rfl rfl rfl (E₁ := _) rfl) (ja_cons (jv 3) ja_nil)))) (js_one js_never) js_nil))) (js_cons (js_if (jt_cmp (o_eqA hu) (jv 2) j_int) (js_one js_never) js_nil) (js_cons (js_set (i := 4) nd (j_callH h_common_divisor (hr.mono (by decide)) (takes_of rfl rfl rfl (E₁ := _) rfl) (ja_cons (jv 1) (ja_cons (jv 2) ja_nil)))) (js_cons (js_fput E.F_own_top (jv 0) (j_if (jt_cmp o_gtI (jv 2) j_int) (j_bin o_fdiv (jv 1) (jv 4)) (j_bin o_sub j_int (j_bin o_fdiv (jv 1) (jv 4))))) (js_one (js_fput E.F_own_bottom (jv 0) (j_bin o_fdiv (j_callB c_abs rfl E.n_abs (by decide +kernel) (ja_cons (jv 2) ja_nil)) (jv 4))))))))
theorem sc_Moments___init__ : NdefX.NScope ["self", "order", "kept", "__class__"] ["self", "order", "kept"] ["__class__"] (defScope s_Moments___init__) := NdefX.nscope_by (by decide +kernel)
theorem ok_Moments___init__ (E : Fs K mg CR) (h_need_amount : Has P w K mg base CR "need_amount" 3 ["value", "least", "most"] F_need_amount) (h_su_Moments_Summary___init____Moments : HasSU P w K mg base CR fileS "Moments" "__init__" ["Moments"] 1 ["self", "kind", "many"] F_Summary___init__) (h_Ratio : HasR P w K mg base CR 2 okR) {f cc c : Addr} {fd : FuncData} (F : FunS K "__init__" "Moments.__init__" (defArgs s_Moments___init__) (defBody s_Moments___init__) (defScope s_Moments___init__) [] [("order", .int 2), ("kept", .non)] f fd cc c) (SK : SupK K fileS cc c (He.ga K "Moments")) : FJ P w K mg base CR 4 f fd ["self", "order", "kept"] (runBody 4 d_Moments___init__) :=
  jf_fnS F sc_Moments___init__ SK fun A outer s H E' Nn hr => by
    have nd := sc_Moments___init__.nd
    have hu := hr.units
    exact (jsA_cons (js_expr (j_callH h_need_amount (hr.mono (by decide)) (takes_of rfl rfl rfl (E₁ := _) rfl) (ja_cons (jv 1) (ja_cons (let ⟨t, h⟩ := E.c_LEAST_ORDER; j_gint h ⟨t, rfl⟩) (ja_cons (let ⟨t, h⟩ := E.c_MOST_ORDER; j_gint h ⟨t, rfl⟩) ja_nil))))) (jsA_expr (jeA_supH h_su_Moments_Summary___init____Moments (SupX.of F rfl rfl rfl rfl rfl rfl) SK (hr.mono (by decide)) (takes_of rfl rfl rfl (E₁ := _) rfl) (ja_cons j_str (ja_cons (j_if (jt_cmp o_isN (jv 2) j_non) j_int (j_ix (jv 2) j_int)) ja_nil))) (jsA_of (js_cons (js_fputN E.FN_own_order (jv 0) (jv 1)) (js_one (js_fputN E.FN_own_sums (jv 0) (j_if (jt_cmp o_isN (jv 2) j_non) (j_callTy c_tuple rfl E.n_tuple (by decide +kernel) (ja_cons (j_bin o_mul (j_lst (ja_cons (j_callR h_Ratio (hr.mono (by decide)) (ja_cons j_int ja_nil)) ja_nil)) (jv 1)) ja_nil)) (j_ix (jv 2) j_int))))))))
theorem sc_w_given : FnScope ["_law_some", "_law_top", "_law_bottom"] ["_law_some"] (defScope s_w_given) := ⟨rfl, rfl, rfl, by decide +kernel, rfl, by decide +kernel, by decide +kernel⟩
theorem ok_w_given (E : Fs K mg CR) (h_Ratio : HasR P w K mg base CR 2 okR) {f : Addr} {fd : FuncData} (F : FunD K "_law_given" "_law_given" (defArgs s_w_given) (defBody s_w_given) (defScope s_w_given) [] [] f fd) : FJ P w K mg base CR 4 f fd ["_law_some"] (runBody 3 d_w_given) :=
  jf_fn F sc_w_given fun cdv A outer s H E' Nn hr => by
    have nd := sc_w_given.nd
    have hu := hr.units
    exact (js_one (js_ret (j_ofF (jf_comp rfl nd (ji_seq (jv 0)) (own := [("_law_top", 1), ("_law_bottom", 2)]) (blkOk_by (by kernel_rfl)) (fun _ _ _ _ _ _ => (jg_tup rfl (jgs_cons (jg_name 1 nd) (jgs_cons (jg_name 2 nd) jgs_nil)))) (fun _ _ _ _ _ _ => jts_nil) (fun _ _ _ _ _ _ => (j_if (jt_cmp o_gtI (jv 2) j_int) (j_callR h_Ratio (hr.mono (by decide)) (ja_cons (jv 1) (ja_cons (jv 2) ja_nil))) (jv 1)))))))
theorem sc_is_number : FnScope ["value"] ["value"] (defScope s_is_number) := ⟨rfl, rfl, rfl, by decide +kernel, rfl, by decide +kernel, by decide +kernel⟩
theorem ok_is_number (E : Fs K mg CR) (h_is_integer : Has P w K mg base CR "is_integer" 1 ["value"] F_is_integer) {f : Addr} {fd : FuncData} (F : FunD K "is_number" "is_number" (defArgs s_is_number) (defBody s_is_number) (defScope s_is_number) [] [] f fd) : FJ P w K mg base CR 2 f fd ["value"] (runBody 1 d_is_number) :=
  jf_fn F sc_is_number fun cdv A outer s H E' Nn hr => by
    have nd := sc_is_number.nd
    have hu := hr.units
    exact (js_one (js_ret (j_or (j_callH h_is_integer (hr.mono (by decide)) (takes_of rfl rfl rfl (E₁ := _) rfl) (ja_cons (jv 0) ja_nil)) (j_one (j_isR E.I E.mR E.n_isinstance (jv 0))))))
theorem sc_need_number : FnScope ["value"] ["value"] (defScope s_need_number) := ⟨rfl, rfl, rfl, by decide +kernel, rfl, by decide +kernel, by decide +kernel⟩
theorem ok_need_number (E : Fs K mg CR) (h_exc_BadNumber : HasE P w K mg base "BadNumber" "value" .ve) (h_is_number_ratios : Has P w K mg base CR "is_number_ratios" 2 ["value"] F_is_number) {f : Addr} {fd : FuncData} (F : FunD K "need_number" "need_number" (defArgs s_need_number) (defBody s_need_number) (defScope s_need_number) [] [] f fd) : FJ P w K mg base CR 3 f fd ["value"] (runBody 1 d_need_number) :=
  jf_fn F sc_need_number fun cdv A outer s H E' Nn hr => by
    have nd := sc_need_number.nd
    have hu := hr.units
    exact (js_one (js_if (jt_not (jt (j_callH h_is_number_ratios (hr.mono (by decide)) (takes_of rfl rfl rfl (E₁ := _) rfl) (ja_cons (jv 0) ja_nil)))) (js_one (js_raise (k := 0) rfl h_exc_BadNumber (hr.mono (by decide)) (takes_of rfl rfl rfl (E₁ := _) rfl) (jv 0))) js_nil))
theorem sc_ratio_of : FnScope ["value"] ["value"] (defScope s_ratio_of) := ⟨rfl, rfl, rfl, by decide +kernel, rfl, by decide +kernel, by decide +kernel⟩
theorem ok_ratio_of (E : Fs K mg CR) (h_Ratio : HasR P w K mg base CR 2 okR) {f : Addr} {fd : FuncData} (F : FunD K "ratio_of" "ratio_of" (defArgs s_ratio_of) (defBody s_ratio_of) (defScope s_ratio_of) [] [] f fd) : FJ P w K mg base CR 4 f fd ["value"] (runBody 1 d_ratio_of) :=
  jf_fn F sc_ratio_of fun cdv A outer s H E' Nn hr => by
    have nd := sc_ratio_of.nd
    have hu := hr.units
    exact (js_one (js_ret (j_if (jt (j_isR E.I E.mR E.n_isinstance (jv 0))) (jv 0) (j_callR h_Ratio (hr.mono (by decide)) (ja_cons (jv 0) ja_nil)))))
theorem sc_common : FnScope ["values", "bottom", "value"] ["values"] (defScope s_common) := ⟨rfl, rfl, rfl, by decide +kernel, rfl, by decide +kernel, by decide +kernel⟩
theorem ok_common (E : Fs K mg CR) (h_common_divisor : Has P w K mg base CR "common_divisor" 1 ["one", "other"] F_common_divisor) {f : Addr} {fd : FuncData} (F : FunD K "common" "common" (defArgs s_common) (defBody s_common) (defScope s_common) [] [] f fd) : FJ P w K mg base CR 2 f fd ["values"] (runBody 3 d_common) :=
  jf_fn F sc_common fun cdv A outer s H E' Nn hr => by
    have nd := sc_common.nd
    have hu := hr.units
    exact (js_cons (js_set (i := 1) nd j_int) (js_cons (js_for (passes_of rfl) rfl (ji_seq (jv 0)) (jg_name 2 nd) (js_one (js_set (i := 1) nd (j_bin o_mul (j_bin o_fdiv (jv 1) (j_callH h_common_divisor (hr.mono (by decide)) (takes_of rfl rfl rfl (E₁ := _) rfl) (ja_cons (jv 1) (ja_cons (j_bot E.T (jv 2)) ja_nil)))) (j_bot E.T (jv 2)))))) (js_one (js_ret (j_tup (ja_cons (j_ofF (jf_comp rfl nd (ji_seq (jv 0)) (own := [("value", 2)]) (blkOk_by (by kernel_rfl)) (fun _ _ _ _ _ _ => (jg_name 2 nd)) (fun _ _ _ _ _ _ => jts_nil) (fun _ _ _ _ _ _ => (j_bin o_mul (j_top E.T (jv 2)) (j_bin o_fdiv (jv 1) (j_bot E.T (jv 2))))))) (ja_cons (jv 1) ja_nil)))))))
theorem sc_power_sums : FnScope ["values", "order", "turn", "integers", "bottom", "powers", "below", "found", "one", "two"] ["values", "order"] (defScope s_power_sums) := ⟨rfl, rfl, rfl, by decide +kernel, rfl, by decide +kernel, by decide +kernel⟩
theorem ok_power_sums (E : Fs K mg CR) (h_common : Has P w K mg base CR "common" 2 ["values"] F_common) (h_Ratio : HasR P w K mg base CR 2 okR) {f : Addr} {fd : FuncData} (F : FunD K "power_sums" "power_sums" (defArgs s_power_sums) (defBody s_power_sums) (defScope s_power_sums) [] [] f fd) : FJ P w K mg base CR 4 f fd ["values", "order"] (runBody 10 d_power_sums) :=
  jf_fn F sc_power_sums fun cdv A outer s H E' Nn hr => by
    have nd := sc_power_sums.nd
    have hu := hr.units
    exact (js_cons (js_asg (j_callH h_common (hr.mono (by decide)) (takes_of rfl rfl rfl (E₁ := _) rfl) (ja_cons (jv 0) ja_nil)) (jg_tup rfl (jgs_cons (jg_name 3 nd) (jgs_cons (jg_name 4 nd) jgs_nil)))) (js_cons (js_parX3 rfl nd (jx_val (jv 3) (jx_val (jv 4) (jx_own (jf_lst ja_nil) fun _ => jx_nil)))) (js_cons (js_for (passes_of rfl) rfl (ji_range1 (ja_cons (jv 1) ja_nil) E.n_range) (jg_name 2 nd) (js_cons (js_expr (j_app (i := 7) (j_callR h_Ratio (hr.mono (by decide)) (ja_cons (j_callB (c_sumI rfl) rfl E.n_sum (by decide +kernel) (ja_cons (jv 5) ja_nil)) (ja_cons (jv 6) ja_nil))))) (js_one (js_par2 rfl nd (ja_cons (j_ofF (jf_comp rfl nd (ji_zip (ja_cons (jv 5) (ja_cons (jv 3) ja_nil)) E.n_zip) (own := [("one", 8), ("two", 9)]) (blkOk_by (by kernel_rfl)) (fun _ _ _ _ _ _ => (jg_tup rfl (jgs_cons (jg_name 8 nd) (jgs_cons (jg_name 9 nd) jgs_nil)))) (fun _ _ _ _ _ _ => jts_nil) (fun _ _ _ _ _ _ => (j_bin o_mul (jv 8) (jv 9))))) (ja_cons (j_bin o_mul (jv 6) (jv 4)) ja_nil)))))) (js_one (js_frz (is := [7]) (js_ret (j_callTy c_tuple rfl E.n_tuple (by decide +kernel) (ja_cons (jv 7) ja_nil))))))))
theorem sc_Moments_power_sums_of : FnScope ["self", "numbers", "number"] ["self", "numbers"] (defScope s_Moments_power_sums_of) := ⟨rfl, rfl, rfl, by decide +kernel, rfl, by decide +kernel, by decide +kernel⟩
theorem ok_Moments_power_sums_of (E : Fs K mg CR) (h_need_number : Has P w K mg base CR "need_number" 3 ["value"] F_need_number) (h_ratio_of : Has P w K mg base CR "ratio_of" 4 ["value"] F_ratio_of) (h_power_sums : Has P w K mg base CR "power_sums" 4 ["values", "order"] F_power_sums) {f : Addr} {fd : FuncData} (F : FunD K "power_sums_of" "Moments.power_sums_of" (defArgs s_Moments_power_sums_of) (defBody s_Moments_power_sums_of) (defScope s_Moments_power_sums_of) [] [] f fd) : FJ P w K mg base CR 5 f fd ["self", "numbers"] (runBody 3 d_Moments_power_sums_of) :=
  jf_fn F sc_Moments_power_sums_of fun cdv A outer s H E' Nn hr => by
    have nd := sc_Moments_power_sums_of.nd
    have hu := hr.units
    exact (js_cons (js_for (passes_of rfl) rfl (ji_seq (jv 1)) (jg_name 2 nd) (js_one (js_expr (j_callH h_need_number (hr.mono (by decide)) (takes_of rfl rfl rfl (E₁ := _) rfl) (ja_cons (jv 2) ja_nil))))) (js_one (js_ret (j_callH h_power_sums (hr.mono (by decide)) (takes_of rfl rfl rfl (E₁ := _) rfl) (ja_cons (j_ofF (jf_comp rfl nd (ji_seq (jv 1)) (own := [("number", 2)]) (blkOk_by (by kernel_rfl)) (fun _ _ _ _ _ _ => (jg_name 2 nd)) (fun _ _ _ _ _ _ => jts_nil) (fun _ _ _ _ _ _ => (j_callH h_ratio_of (hr.mono (by decide)) takes0 (ja_cons (jv 2) ja_nil))))) (ja_cons (j_fldN E.FN_own_order (jv 0)) ja_nil))))))
theorem sc_Ratio___add__ : FnScope ["self", "other", "far"] ["self", "other"] (defScope s_Ratio___add__) := ⟨rfl, rfl, rfl, by decide +kernel, rfl, by decide +kernel, by decide +kernel⟩
theorem ok_Ratio___add__ (E : Fs K mg CR) (h_ratio_of : Has P w K mg base CR "ratio_of" 4 ["value"] F_ratio_of) (h_Ratio : HasR P w K mg base CR 2 okR) {f : Addr} {fd : FuncData} (F : FunD K "__add__" "Ratio.__add__" (defArgs s_Ratio___add__) (defBody s_Ratio___add__) (defScope s_Ratio___add__) [] [] f fd) : FJ P w K mg base CR 5 f fd ["self", "other"] (runBody 3 d_Ratio___add__) :=
  jf_fn F sc_Ratio___add__ fun cdv A outer s H E' Nn hr => by
    have nd := sc_Ratio___add__.nd
    have hu := hr.units
    exact (js_cons (js_set (i := 2) nd (j_callH h_ratio_of (hr.mono (by decide)) (takes_of rfl rfl rfl (E₁ := _) rfl) (ja_cons (jv 1) ja_nil))) (js_one (js_ret (j_callR h_Ratio (hr.mono (by decide)) (ja_cons (j_bin o_add (j_bin o_mul (j_top E.T (jv 0)) (j_bot E.T (jv 2))) (j_bin o_mul (j_top E.T (jv 2)) (j_bot E.T (jv 0)))) (ja_cons (j_bin o_mul (j_bot E.T (jv 0)) (j_bot E.T (jv 2))) ja_nil))))))
theorem sc_added : FnScope ["one", "other", "value", "far"] ["one", "other"] (defScope s_added) := ⟨rfl, rfl, rfl, by decide +kernel, rfl, by decide +kernel, by decide +kernel⟩
theorem ok_added (E : Fs K mg CR) (h_bin_add : HasBn P w K mg base CR "add" 5 F_Ratio___add__) {f : Addr} {fd : FuncData} (F : FunD K "added" "added" (defArgs s_added) (defBody s_added) (defScope s_added) [] [] f fd) : FJ P w K mg base CR 7 f fd ["one", "other"] (runBody 4 d_added) :=
  jf_fn F sc_added fun cdv A outer s H E' Nn hr => by
    have nd := sc_added.nd
    have hu := hr.units
    exact (js_one (js_ret (j_callTy c_tuple rfl E.n_tuple (by decide +kernel) (ja_cons (j_ofF (jf_comp rfl nd (ji_zipQ (ja_cons (jv 0) (ja_cons (jv 1) ja_nil)) E.n_zip) (own := [("value", 2), ("far", 3)]) (blkOk_by (by kernel_rfl)) (fun _ _ _ _ _ _ => (jg_tup rfl (jgs_cons (jg_name 2 nd) (jgs_cons (jg_name 3 nd) jgs_nil)))) (fun _ _ _ _ _ _ => jts_nil) (fun _ _ _ _ _ _ => (j_bin (OJ.rl (op := .Add) h_bin_add (hr.mono (by decide)) takes0 o_add) (jv 2) (jv 3))))) ja_nil))))
theorem sc_Moments_feed : FnScope ["self", "numbers"] ["self", "numbers"] (defScope s_Moments_feed) := ⟨rfl, rfl, rfl, by decide +kernel, rfl, by decide +kernel, by decide +kernel⟩
theorem ok_Moments_feed (E : Fs K mg CR) (h_nm_Moments_power_sums_of : HasMN P w K mg base CR "Moments" "power_sums_of" 5 ["self", "numbers"] F_Moments_power_sums_of) (h_added : Has P w K mg base CR "added" 7 ["one", "other"] F_added) {f : Addr} {fd : FuncData} (F : FunD K "feed" "Moments.feed" (defArgs s_Moments_feed) (defBody s_Moments_feed) (defScope s_Moments_feed) [] [] f fd) : FJV P w K mg base CR 8 f fd ["self"] "numbers" (runBody 2 d_Moments_feed) :=
  jf_fnV F sc_Moments_feed fun cdv A outer s H E' Nn hr => by
    have nd := sc_Moments_feed.nd
    have hu := hr.units
    exact (js_cons (js_fputN E.FN_own_sums (jv 0) (j_callH h_added (hr.mono (by decide)) (takes_of rfl rfl rfl (E₁ := _) rfl) (ja_cons (j_fldN E.FN_own_sums (jv 0)) (ja_cons (j_methN (mt_h h_nm_Moments_power_sums_of (hr.mono (by decide)) (takes_of rfl rfl rfl (E₁ := _) rfl) mt_nil) (jv 0) (ja_cons (jv 1) ja_nil)) ja_nil)))) (js_one (js_fputN E.FN_own_many (jv 0) (j_bin o_add (j_fldN E.FN_own_many (jv 0)) (j_callB c_len rfl E.n_len (by decide +kernel) (ja_cons (jv 1) ja_nil))))))
theorem sc_w_fed_moments : FnScope ["_law_some", "_law_most", "_law_found", "_law_value"] ["_law_some", "_law_most"] (defScope s_w_fed_moments) := ⟨rfl, rfl, rfl, by decide +kernel, rfl, by decide +kernel, by decide +kernel⟩
theorem ok_w_fed_moments (E : Fs K mg CR) (h_new_Moments_0__order_00d : HasNew P w K mg base CR "Moments" 4 ["self", "order", "kept"] 0 ["order"] (fun us zs => pick3 [(0, 0), (2, 0), (1, 0)] us [.non] zs) F_Moments___init__) (h_w_given : Has P w K mg base CR "_law_given" 4 ["_law_some"] F_w_given) (h_nmv_Moments_feed : HasMV P w K mg base CR "Moments" "feed" 8 ["self"] "numbers" F_Moments_feed) {f : Addr} {fd : FuncData} (F : FunD K "_law_fed_moments" "_law_fed_moments" (defArgs s_w_fed_moments) (defBody s_w_fed_moments) (defScope s_w_fed_moments) [] [] f fd) : FJ P w K mg base CR 9 f fd ["_law_some", "_law_most"] (runBody 4 d_w_fed_moments) :=
  jf_fn F sc_w_fed_moments fun cdv A outer s H E' Nn hr => by
    have nd := sc_w_fed_moments.nd
    have hu := hr.units
    exact (js_cons (js_set (i := 2) nd (j_newK0 h_new_Moments_0__order_00d h_new_Moments_0__order_00d.kp (hr.mono (by decide)) (takes_of rfl rfl rfl (E₁ := _) rfl) (jk_cons (jv 1) jk_nil))) (js_cons (js_for (passes_of rfl) rfl (ji_seq (j_callH h_w_given (hr.mono (by decide)) (takes_of rfl rfl rfl (E₁ := _) rfl) (ja_cons (jv 0) ja_nil))) (jg_name 3 nd) (js_one (js_expr (j_methN (mt_hV h_nmv_Moments_feed (hr.mono (by decide)) (takes_of rfl rfl rfl (E₁ := _) rfl) mt_nil) (jv 2) (ja_cons (jv 3) ja_nil))))) (js_one (js_ret (jv 2)))))
theorem sc_Ratio___mul__ : FnScope ["self", "other", "far"] ["self", "other"] (defScope s_Ratio___mul__) := ⟨rfl, rfl, rfl, by decide +kernel, rfl, by decide +kernel, by decide +kernel⟩
theorem ok_Ratio___mul__ (E : Fs K mg CR) (h_ratio_of : Has P w K mg base CR "ratio_of" 4 ["value"] F_ratio_of) (h_Ratio : HasR P w K mg base CR 2 okR) {f : Addr} {fd : FuncData} (F : FunD K "__mul__" "Ratio.__mul__" (defArgs s_Ratio___mul__) (defBody s_Ratio___mul__) (defScope s_Ratio___mul__) [] [] f fd) : FJ P w K mg base CR 5 f fd ["self", "other"] (runBody 3 d_Ratio___mul__) :=
  jf_fn F sc_Ratio___mul__ fun cdv A outer s H E' Nn hr => by
    have nd := sc_Ratio___mul__.nd
    have hu := hr.units
    exact (js_cons (js_set (i := 2) nd (j_callH h_ratio_of (hr.mono (by decide)) (takes_of rfl rfl rfl (E₁ := _) rfl) (ja_cons (jv 1) ja_nil))) (js_one (js_ret (j_callR h_Ratio (hr.mono (by decide)) (ja_cons (j_bin o_mul (j_top E.T (jv 0)) (j_top E.T (jv 2))) (ja_cons (j_bin o_mul (j_bot E.T (jv 0)) (j_bot E.T (jv 2))) ja_nil))))))
theorem sc_power_of : FnScope ["value", "order", "found", "turn"] ["value", "order"] (defScope s_power_of) := ⟨rfl, rfl, rfl, by decide +kernel, rfl, by decide +kernel, by decide +kernel⟩
theorem ok_power_of (E : Fs K mg CR) (h_Ratio : HasR P w K mg base CR 2 okR) (h_bin_mul : HasBn P w K mg base CR "mul" 5 F_Ratio___mul__) {f : Addr} {fd : FuncData} (F : FunD K "power_of" "power_of" (defArgs s_power_of) (defBody s_power_of) (defScope s_power_of) [] [] f fd) : FJ P w K mg base CR 6 f fd ["value", "order"] (runBody 4 d_power_of) :=
  jf_fn F sc_power_of fun cdv A outer s H E' Nn hr => by
    have nd := sc_power_of.nd
    have hu := hr.units
    exact (js_cons (js_set (i := 2) nd (j_callR h_Ratio (hr.mono (by decide)) (ja_cons j_int ja_nil))) (js_cons (js_for (passes_of rfl) rfl (ji_range1 (ja_cons (jv 1) ja_nil) E.n_range) (jg_name 3 nd) (js_one (js_set (i := 2) nd (j_bin (OJ.rl (op := .Mult) h_bin_mul (hr.mono (by decide)) (takes_of rfl rfl rfl (E₁ := _) rfl) o_mul) (jv 2) (jv 0))))) (js_one (js_ret (jv 2)))))
theorem sc_Moments_scaled : FnScope ["self", "number", "by", "sums", "index", "value"] ["self", "number"] (defScope s_Moments_scaled) := ⟨rfl, rfl, rfl, by decide +kernel, rfl, by decide +kernel, by decide +kernel⟩
theorem ok_Moments_scaled (E : Fs K mg CR) (h_need_number : Has P w K mg base CR "need_number" 3 ["value"] F_need_number) (h_ratio_of : Has P w K mg base CR "ratio_of" 4 ["value"] F_ratio_of) (h_power_of : Has P w K mg base CR "power_of" 6 ["value", "order"] F_power_of) (h_bin_mul : HasBn P w K mg base CR "mul" 5 F_Ratio___mul__) (h_new_Moments_0__order_kept_001 : HasNew P w K mg base CR "Moments" 4 ["self", "order", "kept"] 0 ["order", "kept"] (fun us zs => pick3 [(0, 0), (2, 0), (2, 1)] us [] zs) F_Moments___init__) {f : Addr} {fd : FuncData} (F : FunD K "scaled" "Moments.scaled" (defArgs s_Moments_scaled) (defBody s_Moments_scaled) (defScope s_Moments_scaled) [] [] f fd) : FJ P w K mg base CR 7 f fd ["self", "number"] (runBody 6 d_Moments_scaled) :=
  jf_fn F sc_Moments_scaled fun cdv A outer s H E' Nn hr => by
    have nd := sc_Moments_scaled.nd
    have hu := hr.units
    exact (js_cons (js_expr (j_callH h_need_number (hr.mono (by decide)) (takes_of rfl rfl rfl (E₁ := _) rfl) (ja_cons (jv 1) ja_nil))) (js_cons (js_set (i := 2) nd (j_callH h_ratio_of (hr.mono (by decide)) (takes_of rfl rfl rfl (E₁ := _) rfl) (ja_cons (jv 1) ja_nil))) (js_cons (js_setLc (i := 3) rfl nd (sw_true (by rfl) (by rfl) (by kernel_rfl) (by kernel_rfl)) (ji_enumA (ja_cons (j_fldN E.FN_own_sums (jv 0)) ja_nil) E.n_enumerate) (own := [("index", 4), ("value", 5)]) (blkOk_by (by kernel_rfl)) (fun _ _ _ _ _ _ => (jg_tup rfl (jgs_cons (jg_name 4 nd) (jgs_cons (jg_name 5 nd) jgs_nil)))) (fun _ _ _ _ _ _ => jts_nil) (fun _ _ _ _ _ _ => (j_bin (OJ.rl (op := .Mult) h_bin_mul (hr.mono (by decide)) takes0 o_mul) (jv 5) (j_callH h_power_of (hr.mono (by decide)) takes0 (ja_cons (jv 2) (ja_cons (j_bin o_add (jv 4) j_int) ja_nil)))))) (js_one (js_ret (j_newK0 h_new_Moments_0__order_kept_001 h_new_Moments_0__order_kept_001.kp (hr.mono (by decide)) (takes_of rfl rfl rfl (E₁ := _) rfl) (jk_cons (j_fldN E.FN_own_order (jv 0)) (jk_cons (j_tup (ja_cons (j_fldN E.FN_own_many (jv 0)) (ja_cons (j_callTy c_tuple rfl E.n_tuple (by decide +kernel) (ja_cons (jv 3) ja_nil)) ja_nil))) jk_nil))))))))
theorem sc_choices : FnScope ["order", "found", "turn", "one", "two"] ["order"] (defScope s_choices) := ⟨rfl, rfl, rfl, by decide +kernel, rfl, by decide +kernel, by decide +kernel⟩
theorem ok_choices (E : Fs K mg CR)  {f : Addr} {fd : FuncData} (F : FunD K "choices" "choices" (defArgs s_choices) (defBody s_choices) (defScope s_choices) [] [] f fd) : FJ P w K mg base CR 1 f fd ["order"] (runBody 5 d_choices) :=
  jf_fn F sc_choices fun cdv A outer s H E' Nn hr => by
    have nd := sc_choices.nd
    have hu := hr.units
    exact (js_cons (js_set (i := 1) nd (j_lst (ja_cons j_int ja_nil))) (js_cons (js_for (passes_of rfl) rfl (ji_range1 (ja_cons (jv 0) ja_nil) E.n_range) (jg_name 2 nd) (js_one (js_setLc (i := 1) rfl nd (sw_true (by rfl) (by rfl) (by kernel_rfl) (by kernel_rfl)) (ji_zip (ja_cons (j_bin o_add (jv 1) (j_lst (ja_cons j_int ja_nil))) (ja_cons (j_bin o_add (j_lst (ja_cons j_int ja_nil)) (jv 1)) ja_nil)) E.n_zip) (own := [("one", 3), ("two", 4)]) (blkOk_by (by kernel_rfl)) (fun _ _ _ _ _ _ => (jg_tup rfl (jgs_cons (jg_name 3 nd) (jgs_cons (jg_name 4 nd) jgs_nil)))) (fun _ _ _ _ _ _ => jts_nil) (fun _ _ _ _ _ _ => (j_bin o_add (jv 3) (jv 4)))))) (js_one (js_ret (jv 1)))))
theorem sc_shifted_sum : FnScope ["many", "sums", "power", "by", "before", "found", "index", "count"] ["many", "sums", "power", "by"] (defScope s_shifted_sum) := ⟨rfl, rfl, rfl, by decide +kernel, rfl, by decide +kernel, by decide +kernel⟩
theorem ok_shifted_sum (E : Fs K mg CR) (h_Ratio : HasR P w K mg base CR 2 okR) (h_bin_add : HasBn P w K mg base CR "add" 5 F_Ratio___add__) (h_choices : Has P w K mg base CR "choices" 1 ["order"] F_choices) (h_bin_mul : HasBn P w K mg base CR "mul" 5 F_Ratio___mul__) (h_power_of : Has P w K mg base CR "power_of" 6 ["value", "order"] F_power_of) {f : Addr} {fd : FuncData} (F : FunD K "shifted_sum" "shifted_sum" (defArgs s_shifted_sum) (defBody s_shifted_sum) (defScope s_shifted_sum) [] [] f fd) : FJ P w K mg base CR 7 f fd ["many", "sums", "power", "by"] (runBody 8 d_shifted_sum) :=
  jf_fn F sc_shifted_sum fun cdv A outer s H E' Nn hr => by
    have nd := sc_shifted_sum.nd
    have hu := hr.units
    exact (js_cons (js_set (i := 4) nd (j_bin (OJ.rl (op := .Add) h_bin_add (hr.mono (by decide)) (takes_of rfl rfl rfl (E₁ := _) rfl) o_add) (j_lst (ja_cons (j_callR h_Ratio (hr.mono (by decide)) (ja_cons (jv 0) ja_nil)) ja_nil)) (j_callTy c_list rfl E.n_list (by decide +kernel) (ja_cons (jv 1) ja_nil)))) (js_cons (js_set (i := 5) nd (j_callR h_Ratio (hr.mono (by decide)) (ja_cons j_int ja_nil))) (js_cons (js_for (passes_of rfl) rfl (ji_enumA (ja_cons (j_callH h_choices (hr.mono (by decide)) (takes_of rfl rfl rfl (E₁ := _) rfl) (ja_cons (jv 2) ja_nil)) ja_nil) E.n_enumerate) (jg_tup rfl (jgs_cons (jg_name 6 nd) (jgs_cons (jg_name 7 nd) jgs_nil))) (js_one (js_set (i := 5) nd (j_bin (OJ.rl (op := .Add) h_bin_add (hr.mono (by decide)) (takes_of rfl rfl rfl (E₁ := _) rfl) o_add) (jv 5) (j_bin (OJ.rl (op := .Mult) h_bin_mul (hr.mono (by decide)) (takes_of rfl rfl rfl (E₁ := _) rfl) o_mul) (j_bin (OJ.rl (op := .Mult) h_bin_mul (hr.mono (by decide)) (takes_of rfl rfl rfl (E₁ := _) rfl) o_mul) (j_ix (jv 4) (jv 6)) (jv 7)) (j_callH h_power_of (hr.mono (by decide)) (takes_of rfl rfl rfl (E₁ := _) rfl) (ja_cons (jv 3) (ja_cons (j_bin o_sub (jv 2) (jv 6)) ja_nil)))))))) (js_one (js_ret (jv 5))))))
theorem sc_Moments_shifted : FnScope ["self", "number", "by", "sums", "power"] ["self", "number"] (defScope s_Moments_shifted) := ⟨rfl, rfl, rfl, by decide +kernel, rfl, by decide +kernel, by decide +kernel⟩
theorem ok_Moments_shifted (E : Fs K mg CR) (h_need_number : Has P w K mg base CR "need_number" 3 ["value"] F_need_number) (h_ratio_of : Has P w K mg base CR "ratio_of" 4 ["value"] F_ratio_of) (h_shifted_sum : Has P w K mg base CR "shifted_sum" 7 ["many", "sums", "power", "by"] F_shifted_sum) (h_new_Moments_0__order_kept_001 : HasNew P w K mg base CR "Moments" 4 ["self", "order", "kept"] 0 ["order", "kept"] (fun us zs => pick3 [(0, 0), (2, 0), (2, 1)] us [] zs) F_Moments___init__) {f : Addr} {fd : FuncData} (F : FunD K "shifted" "Moments.shifted" (defArgs s_Moments_shifted) (defBody s_Moments_shifted) (defScope s_Moments_shifted) [] [] f fd) : FJ P w K mg base CR 8 f fd ["self", "number"] (runBody 5 d_Moments_shifted) :=
  jf_fn F sc_Moments_shifted fun cdv A outer s H E' Nn hr => by
    have nd := sc_Moments_shifted.nd
    have hu := hr.units
    exact (js_cons (js_expr (j_callH h_need_number (hr.mono (by decide)) (takes_of rfl rfl rfl (E₁ := _) rfl) (ja_cons (jv 1) ja_nil))) (js_cons (js_set (i := 2) nd (j_callH h_ratio_of (hr.mono (by decide)) (takes_of rfl rfl rfl (E₁ := _) rfl) (ja_cons (jv 1) ja_nil))) (js_cons (js_setLc (i := 3) rfl nd (sw_true (by rfl) (by rfl) (by kernel_rfl) (by kernel_rfl)) (ji_range1 (ja_cons (j_fldN E.FN_own_order (jv 0)) ja_nil) E.n_range) (own := [("power", 4)]) (blkOk_by (by kernel_rfl)) (fun _ _ _ _ _ _ => (jg_name 4 nd)) (fun _ _ _ _ _ _ => jts_nil) (fun _ _ _ _ _ _ => (j_callH h_shifted_sum (hr.mono (by decide)) takes0 (ja_cons (j_fldN E.FN_own_many (jv 0)) (ja_cons (j_fldN E.FN_own_sums (jv 0)) (ja_cons (j_bin o_add (jv 4) j_int) (ja_cons (jv 2) ja_nil))))))) (js_one (js_ret (j_newK0 h_new_Moments_0__order_kept_001 h_new_Moments_0__order_kept_001.kp (hr.mono (by decide)) (takes_of rfl rfl rfl (E₁ := _) rfl) (jk_cons (j_fldN E.FN_own_order (jv 0)) (jk_cons (j_tup (ja_cons (j_fldN E.FN_own_many (jv 0)) (ja_cons (j_callTy c_tuple rfl E.n_tuple (by decide +kernel) (ja_cons (jv 3) ja_nil)) ja_nil))) jk_nil))))))))
theorem sc_Moments_sums : FnScope ["self"] ["self"] (defScope s_Moments_sums) := ⟨rfl, rfl, rfl, by decide +kernel, rfl, by decide +kernel, by decide +kernel⟩
theorem ok_Moments_sums (E : Fs K mg CR)  {f : Addr} {fd : FuncData} (F : FunD K "sums" "Moments.sums" (defArgs s_Moments_sums) (defBody s_Moments_sums) (defScope s_Moments_sums) [] [] f fd) : FJ P w K mg base CR 1 f fd ["self"] (runBody 1 d_Moments_sums) :=
  jf_fn F sc_Moments_sums fun cdv A outer s H E' Nn hr => by
    have nd := sc_Moments_sums.nd
    have hu := hr.units
    exact (js_one (js_ret (j_fldN E.FN_own_sums (jv 0))))
theorem sc_Ratio_bottom : FnScope ["self"] ["self"] (defScope s_Ratio_bottom) := ⟨rfl, rfl, rfl, by decide +kernel, rfl, by decide +kernel, by decide +kernel⟩
theorem ok_Ratio_bottom (E : Fs K mg CR)  {f : Addr} {fd : FuncData} (F : FunD K "bottom" "Ratio.bottom" (defArgs s_Ratio_bottom) (defBody s_Ratio_bottom) (defScope s_Ratio_bottom) [] [] f fd) : FJ P w K mg base CR 1 f fd ["self"] (runBody 1 d_Ratio_bottom) :=
  jf_fn F sc_Ratio_bottom fun cdv A outer s H E' Nn hr => by
    have nd := sc_Ratio_bottom.nd
    have hu := hr.units
    exact (js_one (js_ret (j_bot E.T (jv 0))))
theorem sc_Ratio_top : FnScope ["self"] ["self"] (defScope s_Ratio_top) := ⟨rfl, rfl, rfl, by decide +kernel, rfl, by decide +kernel, by decide +kernel⟩
theorem ok_Ratio_top (E : Fs K mg CR)  {f : Addr} {fd : FuncData} (F : FunD K "top" "Ratio.top" (defArgs s_Ratio_top) (defBody s_Ratio_top) (defScope s_Ratio_top) [] [] f fd) : FJ P w K mg base CR 1 f fd ["self"] (runBody 1 d_Ratio_top) :=
  jf_fn F sc_Ratio_top fun cdv A outer s H E' Nn hr => by
    have nd := sc_Ratio_top.nd
    have hu := hr.units
    exact (js_one (js_ret (j_top E.T (jv 0))))
theorem sc_w_taken : FnScope ["_law_value"] ["_law_value"] (defScope s_w_taken) := ⟨rfl, rfl, rfl, by decide +kernel, rfl, by decide +kernel, by decide +kernel⟩
theorem ok_w_taken (E : Fs K mg CR) (h_bottom : HasP P w K mg base CR "bottom" 1 F_bottom) (h_top : HasP P w K mg base CR "top" 1 F_top) {f : Addr} {fd : FuncData} (F : FunD K "_law_taken" "_law_taken" (defArgs s_w_taken) (defBody s_w_taken) (defScope s_w_taken) [] [] f fd) : FJ P w K mg base CR 3 f fd ["_law_value"] (runBody 1 d_w_taken) :=
  jf_fn F sc_w_taken fun cdv A outer s H E' Nn hr => by
    have nd := sc_w_taken.nd
    have hu := hr.units
    exact (js_one (js_ret (j_if (jt (j_isR E.I E.mR E.n_isinstance (jv 0))) (j_tup (ja_cons (j_ptop h_top E.T (hr.mono (by decide)) (jv 0)) (ja_cons (j_pbot h_bottom E.T (hr.mono (by decide)) (jv 0)) ja_nil))) j_non)))
theorem sc_w_all_taken : FnScope ["_law_values", "_law_value"] ["_law_values"] (defScope s_w_all_taken) := ⟨rfl, rfl, rfl, by decide +kernel, rfl, by decide +kernel, by decide +kernel⟩
theorem ok_w_all_taken (E : Fs K mg CR) (h_w_taken : Has P w K mg base CR "_law_taken" 3 ["_law_value"] F_w_taken) {f : Addr} {fd : FuncData} (F : FunD K "_law_all_taken" "_law_all_taken" (defArgs s_w_all_taken) (defBody s_w_all_taken) (defScope s_w_all_taken) [] [] f fd) : FJ P w K mg base CR 4 f fd ["_law_values"] (runBody 2 d_w_all_taken) :=
  jf_fn F sc_w_all_taken fun cdv A outer s H E' Nn hr => by
    have nd := sc_w_all_taken.nd
    have hu := hr.units
    exact (js_one (js_ret (j_ofF (jf_comp rfl nd (ji_seq (jv 0)) (own := [("_law_value", 1)]) (blkOk_by (by kernel_rfl)) (fun _ _ _ _ _ _ => (jg_name 1 nd)) (fun _ _ _ _ _ _ => jts_nil) (fun _ _ _ _ _ _ => (j_callH h_w_taken (hr.mono (by decide)) takes0 (ja_cons (jv 1) ja_nil)))))))
theorem sc_Summary_size : FnScope ["self"] ["self"] (defScope s_Summary_size) := ⟨rfl, rfl, rfl, by decide +kernel, rfl, by decide +kernel, by decide +kernel⟩
theorem ok_Summary_size (E : Fs K mg CR)  {f : Addr} {fd : FuncData} (F : FunD K "size" "Summary.size" (defArgs s_Summary_size) (defBody s_Summary_size) (defScope s_Summary_size) [] [] f fd) : FJ P w K mg base CR 1 f fd ["self"] (runBody 1 d_Summary_size) :=
  jf_fn F sc_Summary_size fun cdv A outer s H E' Nn hr => by
    have nd := sc_Summary_size.nd
    have hu := hr.units
    exact (js_one (js_ret (j_fldN E.FN_own_many (jv 0))))
theorem sc_Moments_order : FnScope ["self"] ["self"] (defScope s_Moments_order) := ⟨rfl, rfl, rfl, by decide +kernel, rfl, by decide +kernel, by decide +kernel⟩
theorem ok_Moments_order (E : Fs K mg CR)  {f : Addr} {fd : FuncData} (F : FunD K "order" "Moments.order" (defArgs s_Moments_order) (defBody s_Moments_order) (defScope s_Moments_order) [] [] f fd) : FJ P w K mg base CR 1 f fd ["self"] (runBody 1 d_Moments_order) :=
  jf_fn F sc_Moments_order fun cdv A outer s H E' Nn hr => by
    have nd := sc_Moments_order.nd
    have hu := hr.units
    exact (js_one (js_ret (j_fldN E.FN_own_order (jv 0))))
theorem sc_w_minus : FnScope ["_law_one", "_law_other"] ["_law_one", "_law_other"] (defScope s_w_minus) := ⟨rfl, rfl, rfl, by decide +kernel, rfl, by decide +kernel, by decide +kernel⟩
theorem ok_w_minus (E : Fs K mg CR) (h_w_low : Has P w K mg base CR "_law_low" 1 ["_law_top", "_law_bottom"] F_w_low) {f : Addr} {fd : FuncData} (F : FunD K "_law_minus" "_law_minus" (defArgs s_w_minus) (defBody s_w_minus) (defScope s_w_minus) [] [] f fd) : FJ P w K mg base CR 2 f fd ["_law_one", "_law_other"] (runBody 2 d_w_minus) :=
  jf_fn F sc_w_minus fun cdv A outer s H E' Nn hr => by
    have nd := sc_w_minus.nd
    have hu := hr.units
    exact (js_one (js_ret (j_callH h_w_low (hr.mono (by decide)) (takes_of rfl rfl rfl (E₁ := _) rfl) (ja_cons (j_bin o_sub (j_bin o_mul (j_ix (jv 0) j_int) (j_ix (jv 1) j_int)) (j_bin o_mul (j_ix (jv 1) j_int) (j_ix (jv 0) j_int))) (ja_cons (j_bin o_mul (j_ix (jv 0) j_int) (j_ix (jv 1) j_int)) ja_nil)))))
theorem sc_is_same_kind : FnScope ["one", "other"] ["one", "other"] (defScope s_is_same_kind) := ⟨rfl, rfl, rfl, by decide +kernel, rfl, by decide +kernel, by decide +kernel⟩
theorem ok_is_same_kind (E : Fs K mg CR) (h_isn_Summary : HasIs K mg CR "Summary" ["Summary", "Moments"] []) {f : Addr} {fd : FuncData} (F : FunD K "is_same_kind" "is_same_kind" (defArgs s_is_same_kind) (defBody s_is_same_kind) (defScope s_is_same_kind) [] [] f fd) : FJ P w K mg base CR 1 f fd ["one", "other"] (runBody 2 d_is_same_kind) :=
  jf_fn F sc_is_same_kind fun cdv A outer s H E' Nn hr => by
    have nd := sc_is_same_kind.nd
    have hu := hr.units
    exact (js_one (js_ret (j_and (j_isN E.I.kk h_isn_Summary E.n_isinstance (jv 0)) (j_and (j_isN E.I.kk h_isn_Summary E.n_isinstance (jv 1)) (j_one (j_cmp (o_eqA hu) (j_fldN E.FN_own_kind (jv 0)) (j_fldN E.FN_own_kind (jv 1))))))))
theorem sc_Ratio___eq__ : FnScope ["self", "other", "far"] ["self", "other"] (defScope s_Ratio___eq__) := ⟨rfl, rfl, rfl, by decide +kernel, rfl, by decide +kernel, by decide +kernel⟩
theorem ok_Ratio___eq__ (E : Fs K mg CR) (h_is_number_ratios : Has P w K mg base CR "is_number_ratios" 2 ["value"] F_is_number) (h_ratio_of : Has P w K mg base CR "ratio_of" 4 ["value"] F_ratio_of) {f : Addr} {fd : FuncData} (F : FunD K "__eq__" "Ratio.__eq__" (defArgs s_Ratio___eq__) (defBody s_Ratio___eq__) (defScope s_Ratio___eq__) [] [] f fd) : FJ P w K mg base CR 5 f fd ["self", "other"] (runBody 3 d_Ratio___eq__) :=
  jf_fn F sc_Ratio___eq__ fun cdv A outer s H E' Nn hr => by
    have nd := sc_Ratio___eq__.nd
    have hu := hr.units
    exact (js_cons (js_if (jt_not (jt (j_callH h_is_number_ratios (hr.mono (by decide)) (takes_of rfl rfl rfl (E₁ := _) rfl) (ja_cons (jv 1) ja_nil)))) (js_one (js_ret j_bl)) js_nil) (js_cons (js_set (i := 2) nd (j_callH h_ratio_of (hr.mono (by decide)) (takes_of rfl rfl rfl (E₁ := _) rfl) (ja_cons (jv 1) ja_nil))) (js_one (js_ret (j_and (j_cmp (o_eqA hu) (j_top E.T (jv 0)) (j_top E.T (jv 2))) (j_one (j_cmp (o_eqA hu) (j_bot E.T (jv 0)) (j_bot E.T (jv 2)))))))))
theorem sc_Moments___eq__ : FnScope ["self", "other"] ["self", "other"] (defScope s_Moments___eq__) := ⟨rfl, rfl, rfl, by decide +kernel, rfl, by decide +kernel, by decide +kernel⟩
theorem ok_Moments___eq__ (E : Fs K mg CR) (h_is_same_kind : Has P w K mg base CR "is_same_kind" 1 ["one", "other"] F_is_same_kind) (h_cmp : HasCm P w K mg base CR 5 F_Ratio___eq__) {f : Addr} {fd : FuncData} (F : FunD K "__eq__" "Moments.__eq__" (defArgs s_Moments___eq__) (defBody s_Moments___eq__) (defScope s_Moments___eq__) [] [] f fd) : FJ P w K mg base CR 8 f fd ["self", "other"] (runBody 2 d_Moments___eq__) :=
  jf_fn F sc_Moments___eq__ fun cdv A outer s H E' Nn hr => by
    have nd := sc_Moments___eq__.nd
    have hu := hr.units
    exact (js_cons (js_if (jt_w (jw_or (jt_not (jt (j_callH h_is_same_kind (hr.mono (by decide)) (takes_of rfl rfl rfl (E₁ := _) rfl) (ja_cons (jv 0) (ja_cons (jv 1) ja_nil))))) (jw_or1 (jt_cmp (o_neA hu) (j_fldN E.FN_own_order (jv 0)) (j_fldN E.FN_own_order (jv 1)))))) (js_one (js_ret j_bl)) js_nil) (js_one (js_ret (j_and (j_cmp (OJ.eqV h_cmp (hr.mono (by decide)) (takes_of rfl rfl rfl (E₁ := _) rfl) (fun _ _ _ => PD.e_eq (.inl rfl) _) (o_eqA hu)) (j_fldN E.FN_own_many (jv 0)) (j_fldN E.FN_own_many (jv 1))) (j_one (j_cmp (OJ.eqV h_cmp (hr.mono (by decide)) (takes_of rfl rfl rfl (E₁ := _) rfl) (fun _ _ _ => PD.e_eq (.inl rfl) _) (o_eqA hu)) (j_fldN E.FN_own_sums (jv 0)) (j_fldN E.FN_own_sums (jv 1))))))))
theorem sc_w_through : FnScope ["_law_one", "_law_other"] ["_law_one", "_law_other"] (defScope s_w_through) := ⟨rfl, rfl, rfl, by decide +kernel, rfl, by decide +kernel, by decide +kernel⟩
theorem ok_w_through (E : Fs K mg CR) (h_w_low : Has P w K mg base CR "_law_low" 1 ["_law_top", "_law_bottom"] F_w_low) {f : Addr} {fd : FuncData} (F : FunD K "_law_through" "_law_through" (defArgs s_w_through) (defBody s_w_through) (defScope s_w_through) [] [] f fd) : FJ P w K mg base CR 2 f fd ["_law_one", "_law_other"] (runBody 2 d_w_through) :=
  jf_fn F sc_w_through fun cdv A outer s H E' Nn hr => by
    have nd := sc_w_through.nd
    have hu := hr.units
    exact (js_one (js_ret (j_callH h_w_low (hr.mono (by decide)) (takes_of rfl rfl rfl (E₁ := _) rfl) (ja_cons (j_bin o_mul (j_ix (jv 0) j_int) (j_ix (jv 1) j_int)) (ja_cons (j_bin o_mul (j_ix (jv 0) j_int) (j_ix (jv 1) j_int)) ja_nil)))))
theorem sc_w_moved_right : FnScope ["_law_some", "_law_most", "_law_step", "_law_factor", "_law_due", "_law_back", "_law_moments", "_law_kept", "_law_by", "_law_times_here", "_law_up", "_law_wide", "_law_one"] ["_law_some", "_law_most", "_law_step", "_law_factor"] (defScope s_w_moved_right) := ⟨rfl, rfl, rfl, by decide +kernel, rfl, by decide +kernel, by decide +kernel⟩
theorem ok_w_moved_right (E : Fs K mg CR) (h_w_powers : Has P w K mg base CR "_law_powers" 4 ["_law_some", "_law_most"] F_w_powers) (h_w_fed_moments : Has P w K mg base CR "_law_fed_moments" 9 ["_law_some", "_law_most"] F_w_fed_moments) (h_w_given : Has P w K mg base CR "_law_given" 4 ["_law_some"] F_w_given) (h_nm_Moments_scaled : HasMN P w K mg base CR "Moments" "scaled" 7 ["self", "number"] F_Moments_scaled) (h_nm_Moments_shifted : HasMN P w K mg base CR "Moments" "shifted" 8 ["self", "number"] F_Moments_shifted) (h_w_plus : Has P w K mg base CR "_law_plus" 2 ["_law_one", "_law_other"] F_w_plus) (h_w_times : Has P w K mg base CR "_law_times" 2 ["_law_one", "_law_other"] F_w_times) (h_npr_Moments_sums : HasPN P w K mg base CR "Moments" "sums" 1 F_Moments_sums) (h_w_all_taken : Has P w K mg base CR "_law_all_taken" 4 ["_law_values"] F_w_all_taken) (h_npr_Moments_size : HasPN P w K mg base CR "Moments" "size" 1 F_Summary_size) (h_npr_Moments_order : HasPN P w K mg base CR "Moments" "order" 1 F_Moments_order) (h_w_minus : Has P w K mg base CR "_law_minus" 2 ["_law_one", "_law_other"] F_w_minus) (h_neq_Moments : HasEN P w K mg base CR "Moments" ["Summary", "Moments"] 8 F_Moments___eq__) (h_w_through : Has P w K mg base CR "_law_through" 2 ["_law_one", "_law_other"] F_w_through) {f : Addr} {fd : FuncData} (F : FunD K "_law_moved_right" "_law_moved_right" (defArgs s_w_moved_right) (defBody s_w_moved_right) (defScope s_w_moved_right) [] [] f fd) : FJ P w K mg base CR 11 f fd ["_law_some", "_law_most", "_law_step", "_law_factor"] (runBody 13 d_w_moved_right_k38) :=
  jf_fn F sc_w_moved_right fun cdv A outer s H E' Nn hr => by
    have nd := sc_w_moved_right.nd
    have hu := hr.units
    exact (js_cons (js_par2 rfl nd (ja_cons (j_callH h_w_fed_moments (hr.mono (by decide)) (takes_of rfl rfl rfl (E₁ := _) rfl) (ja_cons (jv 0) (ja_cons (jv 1) ja_nil))) (ja_cons (j_callH h_w_powers (hr.mono (by decide)) (takes_of rfl rfl rfl (E₁ := _) rfl) (ja_cons (jv 0) (ja_cons (jv 1) ja_nil))) ja_nil))) (js_cons (js_asg (j_callH h_w_given (hr.mono (by decide)) (takes_of rfl rfl rfl (E₁ := _) rfl) (ja_cons (j_lst (ja_cons (jv 2) (ja_cons (jv 3) ja_nil))) ja_nil)) (jg_tupL rfl (jgs_cons (jg_name 8 nd) (jgs_cons (jg_name 9 nd) jgs_nil)))) (js_cons (js_par2 rfl nd (ja_cons (j_methN (mt_h h_nm_Moments_shifted (hr.mono (by decide)) (takes_of rfl rfl rfl (E₁ := _) rfl) mt_nil) (jv 6) (ja_cons (jv 8) ja_nil)) (ja_cons (j_methN (mt_h h_nm_Moments_scaled (hr.mono (by decide)) (takes_of rfl rfl rfl (E₁ := _) rfl) mt_nil) (jv 6) (ja_cons (jv 9) ja_nil)) ja_nil))) (js_cons (js_own (i := 4) nd (jf_lst (ja_cons (j_callH h_w_powers (hr.mono (by decide)) (takes_of rfl rfl rfl (E₁ := _) rfl) (ja_cons (j_ofF (jf_comp rfl nd (ji_seq (jv 0)) (own := [("_law_one", 12)]) (blkOk_by (by kernel_rfl)) (fun _ _ _ _ _ _ => (jg_name 12 nd)) (fun _ _ _ _ _ _ => jts_nil) (fun _ _ _ _ _ _ => (j_callH h_w_plus (hr.mono (by decide)) takes0 (ja_cons (jv 12) (ja_cons (jv 2) ja_nil)))))) (ja_cons (jv 1) ja_nil))) ja_nil))) (js_cons (js_expr (j_app (i := 4) (j_callH h_w_powers (hr.mono (by decide)) (takes_of rfl rfl rfl (E₁ := _) rfl) (ja_cons (j_ofF (jf_comp rfl nd (ji_seq (jv 0)) (own := [("_law_one", 12)]) (blkOk_by (by kernel_rfl)) (fun _ _ _ _ _ _ => (jg_name 12 nd)) (fun _ _ _ _ _ _ => jts_nil) (fun _ _ _ _ _ _ => (j_callH h_w_times (hr.mono (by decide)) takes0 (ja_cons (jv 12) (ja_cons (jv 3) ja_nil)))))) (ja_cons (jv 1) ja_nil))))) (js_cons (js_if (jt_bor (is := [4]) (jt_w (jw_or (jt_cmp (o_neA hu) (j_lst (ja_cons (j_callH h_w_all_taken (hr.mono (by decide)) (takes_of rfl rfl rfl (E₁ := _) rfl) (ja_cons (j_propN (pt_one h_npr_Moments_sums) (hr.mono (by decide)) (jv 10)) ja_nil)) (ja_cons (j_callH h_w_all_taken (hr.mono (by decide)) (takes_of rfl rfl rfl (E₁ := _) rfl) (ja_cons (j_propN (pt_one h_npr_Moments_sums) (hr.mono (by decide)) (jv 11)) ja_nil)) ja_nil))) (jv 4)) (jw_or1 (jt_cmp (o_neA hu) (j_lst (ja_cons (j_propN (pt_one h_npr_Moments_size) (hr.mono (by decide)) (jv 10)) (ja_cons (j_propN (pt_one h_npr_Moments_size) (hr.mono (by decide)) (jv 11)) ja_nil))) (j_bin o_mul (j_lst (ja_cons (j_callB c_len rfl E.n_len (by decide +kernel) (ja_cons (jv 0) ja_nil)) ja_nil)) j_int)))))) (js_one (js_ret j_bl)) js_nil) (js_cons (js_if (jt_w (jw_or (jt_cmp (o_neA hu) (j_lst (ja_cons (j_propN (pt_one h_npr_Moments_order) (hr.mono (by decide)) (jv 10)) (ja_cons (j_propN (pt_one h_npr_Moments_order) (hr.mono (by decide)) (jv 11)) ja_nil))) (j_bin o_mul (j_lst (ja_cons (jv 1) ja_nil)) j_int)) (jw_or1 (jt_cmp (o_neA hu) (j_callH h_w_all_taken (hr.mono (by decide)) (takes_of rfl rfl rfl (E₁ := _) rfl) (ja_cons (j_propN (pt_one h_npr_Moments_sums) (hr.mono (by decide)) (jv 6)) ja_nil)) (jv 7))))) (js_one (js_ret j_bl)) js_nil) (js_cons (js_set (i := 5) nd (j_methN (mt_h h_nm_Moments_shifted (hr.mono (by decide)) (takes_of rfl rfl rfl (E₁ := _) rfl) mt_nil) (jv 10) (ja_cons (j_ix (j_callH h_w_given (hr.mono (by decide)) (takes_of rfl rfl rfl (E₁ := _) rfl) (ja_cons (j_lst (ja_cons (j_callH h_w_minus (hr.mono (by decide)) (takes_of rfl rfl rfl (E₁ := _) rfl) (ja_cons (j_tup (ja_cons j_int (ja_cons j_int ja_nil))) (ja_cons (jv 2) ja_nil))) ja_nil)) ja_nil)) j_int) ja_nil))) (js_cons (js_if (jt_not (jt_cmp (OJ.eqN E.C0 (ct_h h_neq_Moments ct_nil) (hr.mono (by decide)) (takes_of rfl rfl rfl (E₁ := _) rfl) (o_eqA hu)) (jv 5) (jv 6))) (js_one (js_ret j_bl)) js_nil) (js_cons (js_if (jt_cmp (o_eqA hu) (jv 3) (j_tup (ja_cons j_int (ja_cons j_int ja_nil)))) (js_one (js_ret (j_cmp (o_eqA hu) (j_callH h_w_all_taken (hr.mono (by decide)) (takes_of rfl rfl rfl (E₁ := _) rfl) (ja_cons (j_propN (pt_one h_npr_Moments_sums) (hr.mono (by decide)) (jv 11)) ja_nil)) (j_bin o_mul (j_lst (ja_cons (j_tup (ja_cons j_int (ja_cons j_int ja_nil))) ja_nil)) (jv 1))))) js_nil) (js_one (js_ret (j_cmp (OJ.eqN E.C0 (ct_h h_neq_Moments ct_nil) (hr.mono (by decide)) (takes_of rfl rfl rfl (E₁ := _) rfl) (o_eqA hu)) (j_methN (mt_h h_nm_Moments_scaled (hr.mono (by decide)) (takes_of rfl rfl rfl (E₁ := _) rfl) mt_nil) (jv 11) (ja_cons (j_ix (j_callH h_w_given (hr.mono (by decide)) (takes_of rfl rfl rfl (E₁ := _) rfl) (ja_cons (j_lst (ja_cons (j_callH h_w_through (hr.mono (by decide)) (takes_of rfl rfl rfl (E₁ := _) rfl) (ja_cons (j_tup (ja_cons j_int (ja_cons j_int ja_nil))) (ja_cons (jv 3) ja_nil))) ja_nil)) ja_nil)) j_int) ja_nil)) (jv 6))))))))))))))
theorem sc_Moments_copied : FnScope ["self"] ["self"] (defScope s_Moments_copied) := ⟨rfl, rfl, rfl, by decide +kernel, rfl, by decide +kernel, by decide +kernel⟩
theorem ok_Moments_copied (E : Fs K mg CR) (h_new_Moments_0__order_kept_001 : HasNew P w K mg base CR "Moments" 4 ["self", "order", "kept"] 0 ["order", "kept"] (fun us zs => pick3 [(0, 0), (2, 0), (2, 1)] us [] zs) F_Moments___init__) {f : Addr} {fd : FuncData} (F : FunD K "copied" "Moments.copied" (defArgs s_Moments_copied) (defBody s_Moments_copied) (defScope s_Moments_copied) [] [] f fd) : FJ P w K mg base CR 6 f fd ["self"] (runBody 1 d_Moments_copied) :=
  jf_fn F sc_Moments_copied fun cdv A outer s H E' Nn hr => by
    have nd := sc_Moments_copied.nd
    have hu := hr.units
    exact (js_one (js_ret (j_newK0 h_new_Moments_0__order_kept_001 h_new_Moments_0__order_kept_001.kp (hr.mono (by decide)) (takes_of rfl rfl rfl (E₁ := _) rfl) (jk_cons (j_fldN E.FN_own_order (jv 0)) (jk_cons (j_tup (ja_cons (j_fldN E.FN_own_many (jv 0)) (ja_cons (j_fldN E.FN_own_sums (jv 0)) ja_nil))) jk_nil)))))
theorem sc_w_apart_right : FnScope ["_law_some", "_law_most", "_law_other", "_law_moments", "_law_kept"] ["_law_some", "_law_most"] (defScope s_w_apart_right) := ⟨rfl, rfl, rfl, by decide +kernel, rfl, by decide +kernel, by decide +kernel⟩
theorem ok_w_apart_right (E : Fs K mg CR) (h_w_powers : Has P w K mg base CR "_law_powers" 4 ["_law_some", "_law_most"] F_w_powers) (h_w_fed_moments : Has P w K mg base CR "_law_fed_moments" 9 ["_law_some", "_law_most"] F_w_fed_moments) (h_nm_Moments_copied : HasMN P w K mg base CR "Moments" "copied" 6 ["self"] F_Moments_copied) (h_nm_Moments_scaled : HasMN P w K mg base CR "Moments" "scaled" 7 ["self", "number"] F_Moments_scaled) (h_nm_Moments_shifted : HasMN P w K mg base CR "Moments" "shifted" 8 ["self", "number"] F_Moments_shifted) (h_nmv_Moments_feed : HasMV P w K mg base CR "Moments" "feed" 8 ["self"] "numbers" F_Moments_feed) (h_npr_Moments_size : HasPN P w K mg base CR "Moments" "size" 1 F_Summary_size) (h_npr_Moments_sums : HasPN P w K mg base CR "Moments" "sums" 1 F_Moments_sums) (h_w_all_taken : Has P w K mg base CR "_law_all_taken" 4 ["_law_values"] F_w_all_taken) {f : Addr} {fd : FuncData} (F : FunD K "_law_apart_right" "_law_apart_right" (defArgs s_w_apart_right) (defBody s_w_apart_right) (defScope s_w_apart_right) [] [] f fd) : FJ P w K mg base CR 10 f fd ["_law_some", "_law_most"] (runBody 5 d_w_apart_right) :=
  jf_fn F sc_w_apart_right fun cdv A outer s H E' Nn hr => by
    have nd := sc_w_apart_right.nd
    have hu := hr.units
    exact (js_cons (js_par2 rfl nd (ja_cons (j_callH h_w_fed_moments (hr.mono (by decide)) (takes_of rfl rfl rfl (E₁ := _) rfl) (ja_cons (jv 0) (ja_cons (jv 1) ja_nil))) (ja_cons (j_callH h_w_powers (hr.mono (by decide)) (takes_of rfl rfl rfl (E₁ := _) rfl) (ja_cons (jv 0) (ja_cons (jv 1) ja_nil))) ja_nil))) (js_cons (js_for (passes_of rfl) rfl (ji_seq (j_tup (ja_cons (j_methN (mt_h h_nm_Moments_shifted (hr.mono (by decide)) (takes_of rfl rfl rfl (E₁ := _) rfl) mt_nil) (jv 3) (ja_cons j_int ja_nil)) (ja_cons (j_methN (mt_h h_nm_Moments_scaled (hr.mono (by decide)) (takes_of rfl rfl rfl (E₁ := _) rfl) mt_nil) (jv 3) (ja_cons j_int ja_nil)) (ja_cons (j_methN0 (mt_h h_nm_Moments_copied (hr.mono (by decide)) (takes_of rfl rfl rfl (E₁ := _) rfl) mt_nil) (jv 3)) ja_nil))))) (jg_name 2 nd) (js_cons (js_expr (j_methN (mt_hV h_nmv_Moments_feed (hr.mono (by decide)) (takes_of rfl rfl rfl (E₁ := _) rfl) mt_nil) (jv 2) (ja_cons j_int ja_nil))) (js_one (js_if (jt_w (jw_or (jt_cmp (o_neA hu) (j_propN (pt_one h_npr_Moments_size) (hr.mono (by decide)) (jv 2)) (j_bin o_add (j_callB c_len rfl E.n_len (by decide +kernel) (ja_cons (jv 0) ja_nil)) j_int)) (jw_or (jt_cmp (o_neA hu) (j_propN (pt_one h_npr_Moments_size) (hr.mono (by decide)) (jv 3)) (j_callB c_len rfl E.n_len (by decide +kernel) (ja_cons (jv 0) ja_nil))) (jw_or1 (jt_cmp (o_neA hu) (j_callH h_w_all_taken (hr.mono (by decide)) (takes_of rfl rfl rfl (E₁ := _) rfl) (ja_cons (j_propN (pt_one h_npr_Moments_sums) (hr.mono (by decide)) (jv 3)) ja_nil)) (jv 4)))))) (js_one (js_ret j_bl)) js_nil)))) (js_one (js_ret j_bl))))
theorem sc_law : FnScope ["_law_script", "_law_k", "_law_source_here", "_law_most", "_law_some"] ["_law_script"] (defScope s_law) := ⟨rfl, rfl, rfl, by decide +kernel, rfl, by decide +kernel, by decide +kernel⟩
theorem ok_law (E : Fs K mg CR) (h_w_source : Has P w K mg base CR "_law_source" 1 ["_law_script", "_law_k"] F_w_source) (h_w_row : Has P w K mg base CR "_law_row" 3 ["_law_source_here", "_law_most"] F_w_row) (h_w_next : Has P w K mg base CR "_law_next" 1 ["_law_source_here", "_law_many"] F_w_next) (h_w_drawn : Has P w K mg base CR "_law_drawn" 2 ["_law_source_here"] F_w_drawn) (h_w_moved_right : Has P w K mg base CR "_law_moved_right" 11 ["_law_some", "_law_most", "_law_step", "_law_factor"] F_w_moved_right_k38) (h_w_apart_right : Has P w K mg base CR "_law_apart_right" 10 ["_law_some", "_law_most"] F_w_apart_right) {f : Addr} {fd : FuncData} (F : FunD K "law" "law" (defArgs s_law) (defBody s_law) (defScope s_law) [] [] f fd) : FJ P w K mg base CR 12 f fd ["_law_script"] (runBody 5 d_law_k38) :=
  jf_fn F sc_law fun cdv A outer s H E' Nn hr => by
    have nd := sc_law.nd
    have hu := hr.units
    exact (js_cons (js_for (passes_of rfl) rfl (ji_range1 (ja_cons (j_callB (c_max2 rfl) rfl E.n_max (by decide +kernel) (ja_cons j_int (ja_cons (j_callB (c_min2 rfl) rfl E.n_min (by decide +kernel) (ja_cons j_int (ja_cons (j_callB c_len rfl E.n_len (by decide +kernel) (ja_cons (jv 0) ja_nil)) ja_nil))) ja_nil))) ja_nil) E.n_range) (jg_name 1 nd) (js_cons (js_set (i := 2) nd (j_callH h_w_source (hr.mono (by decide)) (takes_of rfl rfl rfl (E₁ := _) rfl) (ja_cons (jv 0) (ja_cons (jv 1) ja_nil)))) (js_cons (js_par2 rfl nd (ja_cons (j_bin o_add j_int (j_callH h_w_next (hr.mono (by decide)) (takes_of rfl rfl rfl (E₁ := _) rfl) (ja_cons (jv 2) (ja_cons j_int ja_nil)))) (ja_cons (j_callH h_w_row (hr.mono (by decide)) (takes_of rfl rfl rfl (E₁ := _) rfl) (ja_cons (jv 2) (ja_cons j_int ja_nil))) ja_nil))) (js_cons (js_if (jt_not (jt (j_callH h_w_moved_right (hr.mono (by decide)) (takes_of rfl rfl rfl (E₁ := _) rfl) (ja_cons (jv 4) (ja_cons (jv 3) (ja_cons (j_callH h_w_drawn (hr.mono (by decide)) (takes_of rfl rfl rfl (E₁ := _) rfl) (ja_cons (jv 2) ja_nil)) (ja_cons (j_callH h_w_drawn (hr.mono (by decide)) (takes_of rfl rfl rfl (E₁ := _) rfl) (ja_cons (jv 2) ja_nil)) ja_nil))))))) (js_one (js_ret j_bl)) js_nil) (js_one (js_if (jt_w (jw_or (jt_not (jt (j_callH h_w_moved_right (hr.mono (by decide)) (takes_of rfl rfl rfl (E₁ := _) rfl) (ja_cons (jv 4) (ja_cons (jv 3) (ja_cons (j_tup (ja_cons j_int (ja_cons j_int ja_nil))) (ja_cons (j_tup (ja_cons j_int (ja_cons j_int ja_nil))) ja_nil))))))) (jw_or1 (jt_not (jt (j_callH h_w_apart_right (hr.mono (by decide)) (takes_of rfl rfl rfl (E₁ := _) rfl) (ja_cons (jv 4) (ja_cons (jv 3) ja_nil)))))))) (js_one (js_ret j_bl)) js_nil)))))) (js_cons (js_if (jt_not (jt (j_callH h_w_moved_right (hr.mono (by decide)) (takes_of rfl rfl rfl (E₁ := _) rfl) (ja_cons (j_lst (ja_cons (j_tup (ja_cons j_int (ja_cons j_int ja_nil))) (ja_cons (j_tup (ja_cons j_int (ja_cons j_int ja_nil))) (ja_cons (j_tup (ja_cons j_int (ja_cons j_int ja_nil))) ja_nil)))) (ja_cons j_int (ja_cons (j_tup (ja_cons j_int (ja_cons j_int ja_nil))) (ja_cons (j_tup (ja_cons j_int (ja_cons j_int ja_nil))) ja_nil))))))) (js_one (js_ret j_bl)) js_nil) (js_one (js_ret (j_callH h_w_moved_right (hr.mono (by decide)) (takes_of rfl rfl rfl (E₁ := _) rfl) (ja_cons (j_lst (ja_cons (j_tup (ja_cons j_int (ja_cons j_int ja_nil))) ja_nil)) (ja_cons j_int (ja_cons (j_tup (ja_cons j_int (ja_cons j_int ja_nil))) (ja_cons (j_tup (ja_cons j_int (ja_cons j_int ja_nil))) ja_nil)))))))))
end
theorem facts {P : Program} {w : World} {K : PySem.W.Frag} {h : Heap} {mg : Str → Option Value} (X : K.In h) (G : h.Ns mainGlobals mg) (c : SaysX fa xs fn K) (hP : SupP P fileS) :
    mg "law" = some (.ref (He.ga K "law")) ∧ ∃ fd : FuncData, (∀ (s : Shared) (v : Value), BindsTo s fd ⟨[v], []⟩ [("_law_script", v)]) ∧ ∀ base : Heap, FJ P w K mg base (He.ga K "Ratio") 12 (He.ga K "law") fd ["_law_script"] F_law_k38 := by
  obtain ⟨fd_w_source, Q_w_source⟩ := c.def_ 0 (d := D_w_source) rfl
  obtain ⟨fd_w_next, Q_w_next⟩ := c.def_ 1 (d := D_w_next) rfl
  obtain ⟨fd_w_pick, Q_w_pick⟩ := c.def_ 2 (d := D_w_pick) rfl
  obtain ⟨fd_w_low, Q_w_low⟩ := c.def_ 3 (d := D_w_low) rfl
  obtain ⟨fd_w_drawn, Q_w_drawn⟩ := c.def_ 4 (d := D_w_drawn) rfl
  obtain ⟨fd_w_row, Q_w_row⟩ := c.def_ 5 (d := D_w_row) rfl
  obtain ⟨fd_w_times, Q_w_times⟩ := c.def_ 6 (d := D_w_times) rfl
  obtain ⟨fd_w_power, Q_w_power⟩ := c.def_ 7 (d := D_w_power) rfl
  obtain ⟨fd_w_plus, Q_w_plus⟩ := c.def_ 8 (d := D_w_plus) rfl
  obtain ⟨fd_w_sum, Q_w_sum⟩ := c.def_ 9 (d := D_w_sum) rfl
  obtain ⟨fd_w_powers, Q_w_powers⟩ := c.def_ 10 (d := D_w_powers) rfl
  obtain ⟨fd_is_integer, Q_is_integer⟩ := c.def_ 11 (d := D_is_integer) rfl
  obtain ⟨fd_need_amount, Q_need_amount⟩ := c.def_ 12 (d := D_need_amount) rfl
  obtain ⟨fd_Summary___init__, Q_Summary___init__⟩ := c.def_ 13 (d := D_Summary___init__) rfl
  obtain ⟨fd_common_divisor, Q_common_divisor⟩ := c.def_ 14 (d := D_common_divisor) rfl
  obtain ⟨fd_Ratio___init__, Q_Ratio___init__⟩ := c.def_ 15 (d := D_Ratio___init__) rfl
  obtain ⟨fd_Moments___init__, Q_Moments___init__⟩ := c.defS_ 16 (d := D_Moments___init__) rfl
  have K_Moments___init__ := supB_ok (c.chk 3 (x := supB fileS "Moments" "__init__") rfl)
  obtain ⟨fd_w_given, Q_w_given⟩ := c.def_ 17 (d := D_w_given) rfl
  obtain ⟨fd_is_number, Q_is_number⟩ := c.def_ 18 (d := D_is_number) rfl
  obtain ⟨fd_need_number, Q_need_number⟩ := c.def_ 19 (d := D_need_number) rfl
  obtain ⟨fd_ratio_of, Q_ratio_of⟩ := c.def_ 20 (d := D_ratio_of) rfl
  obtain ⟨fd_common, Q_common⟩ := c.def_ 21 (d := D_common) rfl
  obtain ⟨fd_power_sums, Q_power_sums⟩ := c.def_ 22 (d := D_power_sums) rfl
  obtain ⟨fd_Moments_power_sums_of, Q_Moments_power_sums_of⟩ := c.def_ 23 (d := D_Moments_power_sums_of) rfl
  obtain ⟨fd_Ratio___add__, Q_Ratio___add__⟩ := c.def_ 24 (d := D_Ratio___add__) rfl
  obtain ⟨fd_added, Q_added⟩ := c.def_ 25 (d := D_added) rfl
  obtain ⟨fd_Moments_feed, Q_Moments_feed⟩ := c.def_ 26 (d := D_Moments_feed) rfl
  obtain ⟨fd_w_fed_moments, Q_w_fed_moments⟩ := c.def_ 27 (d := D_w_fed_moments) rfl
  obtain ⟨fd_Ratio___mul__, Q_Ratio___mul__⟩ := c.def_ 28 (d := D_Ratio___mul__) rfl
  obtain ⟨fd_power_of, Q_power_of⟩ := c.def_ 29 (d := D_power_of) rfl
  obtain ⟨fd_Moments_scaled, Q_Moments_scaled⟩ := c.def_ 30 (d := D_Moments_scaled) rfl
  obtain ⟨fd_choices, Q_choices⟩ := c.def_ 31 (d := D_choices) rfl
  obtain ⟨fd_shifted_sum, Q_shifted_sum⟩ := c.def_ 32 (d := D_shifted_sum) rfl
  obtain ⟨fd_Moments_shifted, Q_Moments_shifted⟩ := c.def_ 33 (d := D_Moments_shifted) rfl
  obtain ⟨fd_Moments_sums, Q_Moments_sums⟩ := c.def_ 34 (d := D_Moments_sums) rfl
  obtain ⟨fd_Ratio_bottom, Q_Ratio_bottom⟩ := c.def_ 35 (d := D_Ratio_bottom) rfl
  obtain ⟨fd_Ratio_top, Q_Ratio_top⟩ := c.def_ 36 (d := D_Ratio_top) rfl
  obtain ⟨fd_w_taken, Q_w_taken⟩ := c.def_ 37 (d := D_w_taken) rfl
  obtain ⟨fd_w_all_taken, Q_w_all_taken⟩ := c.def_ 38 (d := D_w_all_taken) rfl
  obtain ⟨fd_Summary_size, Q_Summary_size⟩ := c.def_ 39 (d := D_Summary_size) rfl
  obtain ⟨fd_Moments_order, Q_Moments_order⟩ := c.def_ 40 (d := D_Moments_order) rfl
  obtain ⟨fd_w_minus, Q_w_minus⟩ := c.def_ 41 (d := D_w_minus) rfl
  obtain ⟨fd_is_same_kind, Q_is_same_kind⟩ := c.def_ 42 (d := D_is_same_kind) rfl
  obtain ⟨fd_Ratio___eq__, Q_Ratio___eq__⟩ := c.def_ 43 (d := D_Ratio___eq__) rfl
  obtain ⟨fd_Moments___eq__, Q_Moments___eq__⟩ := c.def_ 44 (d := D_Moments___eq__) rfl
  obtain ⟨fd_w_through, Q_w_through⟩ := c.def_ 45 (d := D_w_through) rfl
  obtain ⟨fd_w_moved_right, Q_w_moved_right⟩ := c.def_ 46 (d := D_w_moved_right) rfl
  obtain ⟨fd_Moments_copied, Q_Moments_copied⟩ := c.def_ 47 (d := D_Moments_copied) rfl
  obtain ⟨fd_w_apart_right, Q_w_apart_right⟩ := c.def_ 48 (d := D_w_apart_right) rfl
  obtain ⟨fd_law, Q_law⟩ := c.def_ 49 (d := D_law) rfl
  have C0 := He.cls_ok (c.fact 37 (f := .cls "Ratio") rfl)
  have T0 : ClsR K (He.ga K "Ratio") := ⟨C0, He.noat_ok (c.fact 38 (f := .noat "Ratio" "own_top") rfl), He.noat_ok (c.fact 39 (f := .noat "Ratio" "own_bottom") rfl)⟩
  have E : Fs K mg (He.ga K "Ratio") := ⟨He.free_ok X G (c.fact 57 (f := .free "abs") rfl), He.free_ok X G (c.fact 58 (f := .free "bool") rfl), He.free_ok X G (c.fact 59 (f := .free "enumerate") rfl), He.free_ok X G (c.fact 60 (f := .free "int") rfl), He.free_ok X G (c.fact 61 (f := .free "isinstance") rfl), He.free_ok X G (c.fact 62 (f := .free "len") rfl), He.free_ok X G (c.fact 63 (f := .free "list") rfl), He.free_ok X G (c.fact 64 (f := .free "max") rfl), He.free_ok X G (c.fact 65 (f := .free "min") rfl), He.free_ok X G (c.fact 66 (f := .free "range") rfl), He.free_ok X G (c.fact 67 (f := .free "sum") rfl), He.free_ok X G (c.fact 68 (f := .free "super") rfl), He.free_ok X G (c.fact 69 (f := .free "tuple") rfl), He.free_ok X G (c.fact 70 (f := .free "zip") rfl), He.glo_ok X G (c.fact 36 (f := .glo "Ratio") rfl), T0, isiR_ok (c.chk 0 (x := kisiB) rfl) (clsI_ok C0 (c.chk 1 (x := fun K => clsIB K (He.ga K "Ratio")) rfl)) (c.chk 2 (x := fun K => isiB K (He.ga K "Ratio")) rfl), fun C hC => by rw [List.mem_singleton.mp hC]; exact ⟨C0, T0.top⟩, fun C hC => by rw [List.mem_singleton.mp hC]; exact ⟨C0, T0.bot⟩, ciN_ok (kisi_ok (c.chk 0 (x := kisiB) rfl)) (clsI_ok C0 (c.chk 1 (x := fun K => clsIB K (He.ga K "Ratio")) rfl)) (fun C hC => by simp only [List.mem_cons, List.not_mem_nil, or_false] at hC; rcases hC with rfl | rfl; exact He.cls_ok (c.fact 42 (f := .cls "Summary") rfl); exact He.cls_ok (c.fact 44 (f := .cls "Moments") rfl)) (c.chk 12 (x := ciNB ["Summary", "Moments"]) rfl), fun C hC => by simp only [List.mem_cons, List.not_mem_nil, or_false] at hC; rcases hC with rfl | rfl; exact ⟨He.cls_ok (c.fact 42 (f := .cls "Summary") rfl), He.noat_ok (c.fact 45 (f := .noat "Summary" "own_kind") rfl)⟩; exact ⟨He.cls_ok (c.fact 44 (f := .cls "Moments") rfl), He.noat_ok (c.fact 46 (f := .noat "Moments" "own_kind") rfl)⟩, fun C hC => by simp only [List.mem_cons, List.not_mem_nil, or_false] at hC; rcases hC with rfl | rfl; exact ⟨He.cls_ok (c.fact 42 (f := .cls "Summary") rfl), He.noat_ok (c.fact 47 (f := .noat "Summary" "own_many") rfl)⟩; exact ⟨He.cls_ok (c.fact 44 (f := .cls "Moments") rfl), He.noat_ok (c.fact 48 (f := .noat "Moments" "own_many") rfl)⟩, fun C hC => by rw [List.mem_singleton.mp hC]; exact ⟨He.cls_ok (c.fact 44 (f := .cls "Moments") rfl), He.noat_ok (c.fact 49 (f := .noat "Moments" "own_order") rfl)⟩, fun C hC => by rw [List.mem_singleton.mp hC]; exact ⟨He.cls_ok (c.fact 44 (f := .cls "Moments") rfl), He.noat_ok (c.fact 50 (f := .noat "Moments" "own_sums") rfl)⟩, He.int_ok X G (c.fact 71 (f := .int "LEAST_ORDER" 2) rfl), He.int_ok X G (c.fact 72 (f := .int "MOST_ORDER" 8) rfl)⟩
  refine ⟨He.glo_ok X G (c.fact 32 (f := .glo "law") rfl), fd_law, fun s v => (FunD.bindsA (ps := ["_law_script"]) Q_law fun _ _ _ _ _ _ us hl => match us, hl with | [_], _ => rfl) s [v] rfl, fun base => ?_⟩
  obtain ⟨fd_BadAmount___init__, Q_BadAmount___init__⟩ := c.def_ 50 (d := D_BadAmount___init__) rfl
  have b_BadAmount___init__ : Binds K fd_BadAmount___init__ ["self", "value"] [] := (FunD.bindsN (ps := ["self", "value"]) Q_BadAmount___init__ fun _ _ _ _ _ _ us hl => match us, hl with | [_, _], _ => rfl)
  have h_exc_BadAmount : HasE P w K mg base "BadAmount" "value" .ve := hasE_of (He.glo_ok X G (c.fact 34 (f := .glo "BadAmount") rfl)) (c.chk 4 (x := oxB .ve "BadAmount" "value") rfl) Q_BadAmount___init__ b_BadAmount___init__ sc_BadAmount___init__ rfl
  obtain ⟨fd_BadNumber___init__, Q_BadNumber___init__⟩ := c.def_ 51 (d := D_BadNumber___init__) rfl
  have b_BadNumber___init__ : Binds K fd_BadNumber___init__ ["self", "value"] [] := (FunD.bindsN (ps := ["self", "value"]) Q_BadNumber___init__ fun _ _ _ _ _ _ us hl => match us, hl with | [_, _], _ => rfl)
  have h_exc_BadNumber : HasE P w K mg base "BadNumber" "value" .ve := hasE_of (He.glo_ok X G (c.fact 35 (f := .glo "BadNumber") rfl)) (c.chk 5 (x := oxB .ve "BadNumber" "value") rfl) Q_BadNumber___init__ b_BadNumber___init__ sc_BadNumber___init__ rfl
  have h_isn_Summary : HasIs K mg (He.ga K "Ratio") "Summary" ["Summary", "Moments"] [] := ⟨He.glo_ok X G (c.fact 41 (f := .glo "Summary") rfl), isN_ok E.C0 (by decide) (by decide) (c.chk 6 (x := isNB "Summary" ["Summary", "Moments"] []) rfl)⟩
  have r_w_source : FJ P w K mg base (He.ga K "Ratio") 1 _ fd_w_source ["_law_script", "_law_k"] (runBody 3 d_w_source) := (ok_w_source E  Q_w_source)
  have b_w_source : Binds K fd_w_source ["_law_script", "_law_k"] [] := (FunD.bindsN (ps := ["_law_script", "_law_k"]) Q_w_source fun _ _ _ _ _ _ us hl => match us, hl with | [_, _], _ => rfl)
  have h_w_source : Has P w K mg base (He.ga K "Ratio") "_law_source" 1 ["_law_script", "_law_k"] F_w_source := ⟨_, fd_w_source, He.glo_ok X G (c.fact 0 (f := .glo "_law_source") rfl), Q_w_source.kp, b_w_source, r_w_source⟩
  have r_w_next : FJ P w K mg base (He.ga K "Ratio") 1 _ fd_w_next ["_law_source_here", "_law_many"] (runBody 5 d_w_next) := (ok_w_next E  Q_w_next)
  have b_w_next : Binds K fd_w_next ["_law_source_here", "_law_many"] [] := (FunD.bindsN (ps := ["_law_source_here", "_law_many"]) Q_w_next fun _ _ _ _ _ _ us hl => match us, hl with | [_, _], _ => rfl)
  have h_w_next : Has P w K mg base (He.ga K "Ratio") "_law_next" 1 ["_law_source_here", "_law_many"] F_w_next := ⟨_, fd_w_next, He.glo_ok X G (c.fact 1 (f := .glo "_law_next") rfl), Q_w_next.kp, b_w_next, r_w_next⟩
  have r_w_pick : FJ P w K mg base (He.ga K "Ratio") 2 _ fd_w_pick ["_law_source_here", "_law_items"] (runBody 2 d_w_pick) := (ok_w_pick E h_w_next Q_w_pick)
  have b_w_pick : Binds K fd_w_pick ["_law_source_here", "_law_items"] [] := (FunD.bindsN (ps := ["_law_source_here", "_law_items"]) Q_w_pick fun _ _ _ _ _ _ us hl => match us, hl with | [_, _], _ => rfl)
  have h_w_pick : Has P w K mg base (He.ga K "Ratio") "_law_pick" 2 ["_law_source_here", "_law_items"] F_w_pick := ⟨_, fd_w_pick, He.glo_ok X G (c.fact 2 (f := .glo "_law_pick") rfl), Q_w_pick.kp, b_w_pick, r_w_pick⟩
  have r_w_low : FJ P w K mg base (He.ga K "Ratio") 1 _ fd_w_low ["_law_top", "_law_bottom"] (runBody 4 d_w_low) := (ok_w_low E  Q_w_low)
  have b_w_low : Binds K fd_w_low ["_law_top", "_law_bottom"] [] := (FunD.bindsN (ps := ["_law_top", "_law_bottom"]) Q_w_low fun _ _ _ _ _ _ us hl => match us, hl with | [_, _], _ => rfl)
  have h_w_low : Has P w K mg base (He.ga K "Ratio") "_law_low" 1 ["_law_top", "_law_bottom"] F_w_low := ⟨_, fd_w_low, He.glo_ok X G (c.fact 3 (f := .glo "_law_low") rfl), Q_w_low.kp, b_w_low, r_w_low⟩
  have r_w_drawn : FJ P w K mg base (He.ga K "Ratio") 2 _ fd_w_drawn ["_law_source_here"] (runBody 2 d_w_drawn) := (ok_w_drawn E h_w_next h_w_low Q_w_drawn)
  have b_w_drawn : Binds K fd_w_drawn ["_law_source_here"] [] := (FunD.bindsN (ps := ["_law_source_here"]) Q_w_drawn fun _ _ _ _ _ _ us hl => match us, hl with | [_], _ => rfl)
  have h_w_drawn : Has P w K mg base (He.ga K "Ratio") "_law_drawn" 2 ["_law_source_here"] F_w_drawn := ⟨_, fd_w_drawn, He.glo_ok X G (c.fact 4 (f := .glo "_law_drawn") rfl), Q_w_drawn.kp, b_w_drawn, r_w_drawn⟩
  have r_w_row : FJ P w K mg base (He.ga K "Ratio") 3 _ fd_w_row ["_law_source_here", "_law_most"] (runBody 4 d_w_row) := (ok_w_row E h_w_next h_w_pick h_w_drawn Q_w_row)
  have b_w_row : Binds K fd_w_row ["_law_source_here", "_law_most"] [] := (FunD.bindsN (ps := ["_law_source_here", "_law_most"]) Q_w_row fun _ _ _ _ _ _ us hl => match us, hl with | [_, _], _ => rfl)
  have h_w_row : Has P w K mg base (He.ga K "Ratio") "_law_row" 3 ["_law_source_here", "_law_most"] F_w_row := ⟨_, fd_w_row, He.glo_ok X G (c.fact 5 (f := .glo "_law_row") rfl), Q_w_row.kp, b_w_row, r_w_row⟩
  have r_w_times : FJ P w K mg base (He.ga K "Ratio") 2 _ fd_w_times ["_law_one", "_law_other"] (runBody 2 d_w_times) := (ok_w_times E h_w_low Q_w_times)
  have b_w_times : Binds K fd_w_times ["_law_one", "_law_other"] [] := (FunD.bindsN (ps := ["_law_one", "_law_other"]) Q_w_times fun _ _ _ _ _ _ us hl => match us, hl with | [_, _], _ => rfl)
  have h_w_times : Has P w K mg base (He.ga K "Ratio") "_law_times" 2 ["_law_one", "_law_other"] F_w_times := ⟨_, fd_w_times, He.glo_ok X G (c.fact 6 (f := .glo "_law_times") rfl), Q_w_times.kp, b_w_times, r_w_times⟩
  have r_w_power : FJ P w K mg base (He.ga K "Ratio") 3 _ fd_w_power ["_law_value", "_law_many"] (runBody 4 d_w_power) := (ok_w_power E h_w_times Q_w_power)
  have b_w_power : Binds K fd_w_power ["_law_value", "_law_many"] [] := (FunD.bindsN (ps := ["_law_value", "_law_many"]) Q_w_power fun _ _ _ _ _ _ us hl => match us, hl with | [_, _], _ => rfl)
  have h_w_power : Has P w K mg base (He.ga K "Ratio") "_law_power" 3 ["_law_value", "_law_many"] F_w_power := ⟨_, fd_w_power, He.glo_ok X G (c.fact 7 (f := .glo "_law_power") rfl), Q_w_power.kp, b_w_power, r_w_power⟩
  have r_w_plus : FJ P w K mg base (He.ga K "Ratio") 2 _ fd_w_plus ["_law_one", "_law_other"] (runBody 2 d_w_plus) := (ok_w_plus E h_w_low Q_w_plus)
  have b_w_plus : Binds K fd_w_plus ["_law_one", "_law_other"] [] := (FunD.bindsN (ps := ["_law_one", "_law_other"]) Q_w_plus fun _ _ _ _ _ _ us hl => match us, hl with | [_, _], _ => rfl)
  have h_w_plus : Has P w K mg base (He.ga K "Ratio") "_law_plus" 2 ["_law_one", "_law_other"] F_w_plus := ⟨_, fd_w_plus, He.glo_ok X G (c.fact 8 (f := .glo "_law_plus") rfl), Q_w_plus.kp, b_w_plus, r_w_plus⟩
  have r_w_sum : FJ P w K mg base (He.ga K "Ratio") 3 _ fd_w_sum ["_law_some"] (runBody 3 d_w_sum) := (ok_w_sum E h_w_plus Q_w_sum)
  have b_w_sum : Binds K fd_w_sum ["_law_some"] [] := (FunD.bindsN (ps := ["_law_some"]) Q_w_sum fun _ _ _ _ _ _ us hl => match us, hl with | [_], _ => rfl)
  have h_w_sum : Has P w K mg base (He.ga K "Ratio") "_law_sum" 3 ["_law_some"] F_w_sum := ⟨_, fd_w_sum, He.glo_ok X G (c.fact 9 (f := .glo "_law_sum") rfl), Q_w_sum.kp, b_w_sum, r_w_sum⟩
  have r_w_powers : FJ P w K mg base (He.ga K "Ratio") 4 _ fd_w_powers ["_law_some", "_law_most"] (runBody 4 d_w_powers) := (ok_w_powers E h_w_power h_w_sum Q_w_powers)
  have b_w_powers : Binds K fd_w_powers ["_law_some", "_law_most"] [] := (FunD.bindsN (ps := ["_law_some", "_law_most"]) Q_w_powers fun _ _ _ _ _ _ us hl => match us, hl with | [_, _], _ => rfl)
  have h_w_powers : Has P w K mg base (He.ga K "Ratio") "_law_powers" 4 ["_law_some", "_law_most"] F_w_powers := ⟨_, fd_w_powers, He.glo_ok X G (c.fact 10 (f := .glo "_law_powers") rfl), Q_w_powers.kp, b_w_powers, r_w_powers⟩
  have r_is_integer : FJ P w K mg base (He.ga K "Ratio") 1 _ fd_is_integer ["value"] (runBody 1 d_is_integer) := (ok_is_integer E  Q_is_integer)
  have b_is_integer : Binds K fd_is_integer ["value"] [] := (FunD.bindsN (ps := ["value"]) Q_is_integer fun _ _ _ _ _ _ us hl => match us, hl with | [_], _ => rfl)
  have h_is_integer : Has P w K mg base (He.ga K "Ratio") "is_integer" 1 ["value"] F_is_integer := ⟨_, fd_is_integer, He.glo_ok X G (c.fact 11 (f := .glo "is_integer") rfl), Q_is_integer.kp, b_is_integer, r_is_integer⟩
  have r_need_amount : FJ P w K mg base (He.ga K "Ratio") 3 _ fd_need_amount ["value", "least", "most"] (runBody 3 d_need_amount) := (ok_need_amount E h_exc_BadAmount h_is_integer Q_need_amount)
  have b_need_amount : Binds K fd_need_amount ["value", "least", "most"] [] := (FunD.bindsN (ps := ["value", "least", "most"]) Q_need_amount fun _ _ _ _ _ _ us hl => match us, hl with | [_, _, _], _ => rfl)
  have h_need_amount : Has P w K mg base (He.ga K "Ratio") "need_amount" 3 ["value", "least", "most"] F_need_amount := ⟨_, fd_need_amount, He.glo_ok X G (c.fact 12 (f := .glo "need_amount") rfl), Q_need_amount.kp, b_need_amount, r_need_amount⟩
  have r_Summary___init__ : FJ P w K mg base (He.ga K "Ratio") 1 _ fd_Summary___init__ ["self", "kind", "many"] (runBody 3 d_Summary___init__) := (ok_Summary___init__ E  Q_Summary___init__)
  have b_Summary___init__ : Binds K fd_Summary___init__ ["self", "kind", "many"] [] := (FunD.bindsN (ps := ["self", "kind", "many"]) Q_Summary___init__ fun _ _ _ _ _ _ us hl => match us, hl with | [_, _, _], _ => rfl)
  have h_su_Moments_Summary___init____Moments : HasSU P w K mg base (He.ga K "Ratio") fileS "Moments" "__init__" ["Moments"] 1 ["self", "kind", "many"] F_Summary___init__ := ⟨E.n_super, hP, _, supMB_ok (c.chk 13 (x := supMB "Moments" "Summary" "__init__" ["Moments"]) rfl), ⟨fd_Summary___init__, b_Summary___init__, r_Summary___init__⟩⟩
  have r_common_divisor : FJ P w K mg base (He.ga K "Ratio") 1 _ fd_common_divisor ["one", "other"] (runBody 2 d_common_divisor) := (ok_common_divisor E  Q_common_divisor)
  have b_common_divisor : Binds K fd_common_divisor ["one", "other"] [] := (FunD.bindsN (ps := ["one", "other"]) Q_common_divisor fun _ _ _ _ _ _ us hl => match us, hl with | [_, _], _ => rfl)
  have h_common_divisor : Has P w K mg base (He.ga K "Ratio") "common_divisor" 1 ["one", "other"] F_common_divisor := ⟨_, fd_common_divisor, He.glo_ok X G (c.fact 13 (f := .glo "common_divisor") rfl), Q_common_divisor.kp, b_common_divisor, r_common_divisor⟩
  have r_Ratio___init__ : FJ P w K mg base (He.ga K "Ratio") 2 _ fd_Ratio___init__ ["self", "top", "bottom"] (runBody 5 (d_Ratio___init__ (He.ga K "Ratio"))) := (ok_Ratio___init__ E h_is_integer h_common_divisor Q_Ratio___init__)
  obtain ⟨ds, rD, b1⟩ := FunD.binds1 (ps := ["self", "top", "bottom"]) Q_Ratio___init__ 2 0 (by simp [DefX.dvs, D_Ratio___init__]) rfl fun _ _ _ _ _ _ _ us its hu hi => match us, its, hu, hi with | [_, _], [_], _, _ => ⟨_, rfl, rfl⟩
  obtain ⟨one, hds, r1⟩ := vals1 rD
  subst hds
  obtain ⟨ds0, rD0, b0⟩ := FunD.binds1 (ps := ["self", "top", "bottom"]) Q_Ratio___init__ 3 1 (by simp [DefX.dvs, D_Ratio___init__]) rfl fun _ _ _ _ _ _ _ us its hu hi => match us, its, hu, hi with | [_, _, _], [_], _, _ => ⟨_, rfl, rfl⟩
  cases rD0
  have h_Ratio : HasR P w K mg base (He.ga K "Ratio") 2 okR := ⟨He.glo_ok X G (c.fact 36 (f := .glo "Ratio") rfl), _, fd_Ratio___init__, one, He.mkr_ok (c.fact 40 (f := .mkr "Ratio") rfl), b0, b1, r1, FJ.imp r_Ratio___init__ (PC.b_init _)⟩
  have r_Moments___init__ : FJ P w K mg base (He.ga K "Ratio") 4 _ fd_Moments___init__ ["self", "order", "kept"] (runBody 4 d_Moments___init__) := (ok_Moments___init__ E h_need_amount h_su_Moments_Summary___init____Moments h_Ratio Q_Moments___init__ K_Moments___init__)
  obtain ⟨mv_h_new_Moments_0__order_00d, b_h_new_Moments_0__order_00d⟩ := FunS.kb4 (ps := ["self", "order", "kept"]) Q_Moments___init__ 1 ["order"] [(0, 0), (2, 0), (1, 0)] [("kept", .non)] (by simp [DefX.kws, D_Moments___init__]) (by simp [DefX.kws, D_Moments___init__, He.Dv.v]) fun _ _ _ _ _ us mv ws hu hm hw => match us, mv, ws, hu, hm, hw with | [_], [_], [_], _, _, _ => ⟨_, _, _, _, _, _, rfl, rfl, rfl⟩
  have h_new_Moments_0__order_00d : HasNew P w K mg base (He.ga K "Ratio") "Moments" 4 ["self", "order", "kept"] 0 ["order"] (fun us zs => pick3 [(0, 0), (2, 0), (1, 0)] us [.non] zs) F_Moments___init__ := ⟨fun us zs h1 h2 => match us, zs, h1, h2 with | [_], [_], _, _ => rfl, He.glo_ok X G (c.fact 43 (f := .glo "Moments") rfl), _, fd_Moments___init__, _, _, He.mkr_ok (c.fact 51 (f := .mkr "Moments") rfl), b_h_new_Moments_0__order_00d, fun _ _ _ _ _ _ _ _ _ _ r1 r2 => pick3_rep r1 ⟨_, _, rfl, rfl, rfl⟩ r2, r_Moments___init__⟩
  have b_h_new_Moments_0__order_kept_001 := FunS.kb3 (ps := ["self", "order", "kept"]) Q_Moments___init__ 1 ["order", "kept"] [(0, 0), (2, 0), (2, 1)] fun _ _ _ _ _ us ws hu hw => match us, ws, hu, hw with | [_], [_, _], _, _ => rfl
  have h_new_Moments_0__order_kept_001 : HasNew P w K mg base (He.ga K "Ratio") "Moments" 4 ["self", "order", "kept"] 0 ["order", "kept"] (fun us zs => pick3 [(0, 0), (2, 0), (2, 1)] us [] zs) F_Moments___init__ := ⟨fun us zs h1 h2 => match us, zs, h1, h2 with | [_], [_, _], _, _ => rfl, He.glo_ok X G (c.fact 43 (f := .glo "Moments") rfl), _, fd_Moments___init__, _, _, He.mkr_ok (c.fact 51 (f := .mkr "Moments") rfl), b_h_new_Moments_0__order_kept_001, fun _ _ _ _ _ _ _ _ _ _ r1 r2 => pick3_rep r1 (rfl : RepL _ _ _ _ _ [] []) r2, r_Moments___init__⟩
  have r_w_given : FJ P w K mg base (He.ga K "Ratio") 4 _ fd_w_given ["_law_some"] (runBody 3 d_w_given) := (ok_w_given E h_Ratio Q_w_given)
  have b_w_given : Binds K fd_w_given ["_law_some"] [] := (FunD.bindsN (ps := ["_law_some"]) Q_w_given fun _ _ _ _ _ _ us hl => match us, hl with | [_], _ => rfl)
  have h_w_given : Has P w K mg base (He.ga K "Ratio") "_law_given" 4 ["_law_some"] F_w_given := ⟨_, fd_w_given, He.glo_ok X G (c.fact 14 (f := .glo "_law_given") rfl), Q_w_given.kp, b_w_given, r_w_given⟩
  have r_is_number : FJ P w K mg base (He.ga K "Ratio") 2 _ fd_is_number ["value"] (runBody 1 d_is_number) := (ok_is_number E h_is_integer Q_is_number)
  have b_is_number : Binds K fd_is_number ["value"] [] := (FunD.bindsN (ps := ["value"]) Q_is_number fun _ _ _ _ _ _ us hl => match us, hl with | [_], _ => rfl)
  have h_is_number_ratios : Has P w K mg base (He.ga K "Ratio") "is_number_ratios" 2 ["value"] F_is_number := ⟨_, fd_is_number, (He.glo_ok X G (c.fact 33 (f := .glo "is_number_ratios") rfl)).trans (congrArg (fun a => some (Value.ref a)) (of_decide_eq_true (c.chk 19 (x := fun K => decide (He.ga K "is_number_ratios" = He.ga K "is_number")) rfl))), Q_is_number.kp, b_is_number, r_is_number⟩
  have r_need_number : FJ P w K mg base (He.ga K "Ratio") 3 _ fd_need_number ["value"] (runBody 1 d_need_number) := (ok_need_number E h_exc_BadNumber h_is_number_ratios Q_need_number)
  have b_need_number : Binds K fd_need_number ["value"] [] := (FunD.bindsN (ps := ["value"]) Q_need_number fun _ _ _ _ _ _ us hl => match us, hl with | [_], _ => rfl)
  have h_need_number : Has P w K mg base (He.ga K "Ratio") "need_number" 3 ["value"] F_need_number := ⟨_, fd_need_number, He.glo_ok X G (c.fact 16 (f := .glo "need_number") rfl), Q_need_number.kp, b_need_number, r_need_number⟩
  have r_ratio_of : FJ P w K mg base (He.ga K "Ratio") 4 _ fd_ratio_of ["value"] (runBody 1 d_ratio_of) := (ok_ratio_of E h_Ratio Q_ratio_of)
  have b_ratio_of : Binds K fd_ratio_of ["value"] [] := (FunD.bindsN (ps := ["value"]) Q_ratio_of fun _ _ _ _ _ _ us hl => match us, hl with | [_], _ => rfl)
  have h_ratio_of : Has P w K mg base (He.ga K "Ratio") "ratio_of" 4 ["value"] F_ratio_of := ⟨_, fd_ratio_of, He.glo_ok X G (c.fact 17 (f := .glo "ratio_of") rfl), Q_ratio_of.kp, b_ratio_of, r_ratio_of⟩
  have r_common : FJ P w K mg base (He.ga K "Ratio") 2 _ fd_common ["values"] (runBody 3 d_common) := (ok_common E h_common_divisor Q_common)
  have b_common : Binds K fd_common ["values"] [] := (FunD.bindsN (ps := ["values"]) Q_common fun _ _ _ _ _ _ us hl => match us, hl with | [_], _ => rfl)
  have h_common : Has P w K mg base (He.ga K "Ratio") "common" 2 ["values"] F_common := ⟨_, fd_common, He.glo_ok X G (c.fact 18 (f := .glo "common") rfl), Q_common.kp, b_common, r_common⟩
  have r_power_sums : FJ P w K mg base (He.ga K "Ratio") 4 _ fd_power_sums ["values", "order"] (runBody 10 d_power_sums) := (ok_power_sums E h_common h_Ratio Q_power_sums)
  have b_power_sums : Binds K fd_power_sums ["values", "order"] [] := (FunD.bindsN (ps := ["values", "order"]) Q_power_sums fun _ _ _ _ _ _ us hl => match us, hl with | [_, _], _ => rfl)
  have h_power_sums : Has P w K mg base (He.ga K "Ratio") "power_sums" 4 ["values", "order"] F_power_sums := ⟨_, fd_power_sums, He.glo_ok X G (c.fact 19 (f := .glo "power_sums") rfl), Q_power_sums.kp, b_power_sums, r_power_sums⟩
  have r_Moments_power_sums_of : FJ P w K mg base (He.ga K "Ratio") 5 _ fd_Moments_power_sums_of ["self", "numbers"] (runBody 3 d_Moments_power_sums_of) := (ok_Moments_power_sums_of E h_need_number h_ratio_of h_power_sums Q_Moments_power_sums_of)
  have b_Moments_power_sums_of : Binds K fd_Moments_power_sums_of ["self", "numbers"] [] := (FunD.bindsN (ps := ["self", "numbers"]) Q_Moments_power_sums_of fun _ _ _ _ _ _ us hl => match us, hl with | [_, _], _ => rfl)
  have h_nm_Moments_power_sums_of : HasMN P w K mg base (He.ga K "Ratio") "Moments" "power_sums_of" 5 ["self", "numbers"] F_Moments_power_sums_of := ⟨He.cls_ok (c.fact 44 (f := .cls "Moments") rfl), _, He.meth_ok (c.fact 52 (f := .meth "Moments" "power_sums_of") rfl), ⟨fd_Moments_power_sums_of, b_Moments_power_sums_of, r_Moments_power_sums_of⟩⟩
  have r_Ratio___add__ : FJ P w K mg base (He.ga K "Ratio") 5 _ fd_Ratio___add__ ["self", "other"] (runBody 3 d_Ratio___add__) := (ok_Ratio___add__ E h_ratio_of h_Ratio Q_Ratio___add__)
  have b_Ratio___add__ : Binds K fd_Ratio___add__ ["self", "other"] [] := (FunD.bindsN (ps := ["self", "other"]) Q_Ratio___add__ fun _ _ _ _ _ _ us hl => match us, hl with | [_, _], _ => rfl)
  have h_bin_add : HasBn P w K mg base (He.ga K "Ratio") "add" 5 F_Ratio___add__ := ⟨_, binB_ok (c.chk 7 (x := binB "add") rfl), ⟨fd_Ratio___add__, b_Ratio___add__, r_Ratio___add__⟩⟩
  have r_added : FJ P w K mg base (He.ga K "Ratio") 7 _ fd_added ["one", "other"] (runBody 4 d_added) := (ok_added E h_bin_add Q_added)
  have b_added : Binds K fd_added ["one", "other"] [] := (FunD.bindsN (ps := ["one", "other"]) Q_added fun _ _ _ _ _ _ us hl => match us, hl with | [_, _], _ => rfl)
  have h_added : Has P w K mg base (He.ga K "Ratio") "added" 7 ["one", "other"] F_added := ⟨_, fd_added, He.glo_ok X G (c.fact 20 (f := .glo "added") rfl), Q_added.kp, b_added, r_added⟩
  have r_Moments_feed : FJV P w K mg base (He.ga K "Ratio") 8 _ fd_Moments_feed ["self"] "numbers" (runBody 2 d_Moments_feed) := (ok_Moments_feed E h_nm_Moments_power_sums_of h_added Q_Moments_feed)
  have b_Moments_feed : BnV K fd_Moments_feed ["self"] "numbers" := FunD.bnV Q_Moments_feed fun _ _ _ _ _ _ us rest hl => match us, rest, hl with | [_], [], _ => rfl | [_], _ :: _, _ => rfl
  have h_nmv_Moments_feed : HasMV P w K mg base (He.ga K "Ratio") "Moments" "feed" 8 ["self"] "numbers" F_Moments_feed := ⟨He.cls_ok (c.fact 44 (f := .cls "Moments") rfl), _, fd_Moments_feed, He.meth_ok (c.fact 53 (f := .meth "Moments" "feed") rfl), r_Moments_feed, b_Moments_feed⟩
  have r_w_fed_moments : FJ P w K mg base (He.ga K "Ratio") 9 _ fd_w_fed_moments ["_law_some", "_law_most"] (runBody 4 d_w_fed_moments) := (ok_w_fed_moments E h_new_Moments_0__order_00d h_w_given h_nmv_Moments_feed Q_w_fed_moments)
  have b_w_fed_moments : Binds K fd_w_fed_moments ["_law_some", "_law_most"] [] := (FunD.bindsN (ps := ["_law_some", "_law_most"]) Q_w_fed_moments fun _ _ _ _ _ _ us hl => match us, hl with | [_, _], _ => rfl)
  have h_w_fed_moments : Has P w K mg base (He.ga K "Ratio") "_law_fed_moments" 9 ["_law_some", "_law_most"] F_w_fed_moments := ⟨_, fd_w_fed_moments, He.glo_ok X G (c.fact 21 (f := .glo "_law_fed_moments") rfl), Q_w_fed_moments.kp, b_w_fed_moments, r_w_fed_moments⟩
  have r_Ratio___mul__ : FJ P w K mg base (He.ga K "Ratio") 5 _ fd_Ratio___mul__ ["self", "other"] (runBody 3 d_Ratio___mul__) := (ok_Ratio___mul__ E h_ratio_of h_Ratio Q_Ratio___mul__)
  have b_Ratio___mul__ : Binds K fd_Ratio___mul__ ["self", "other"] [] := (FunD.bindsN (ps := ["self", "other"]) Q_Ratio___mul__ fun _ _ _ _ _ _ us hl => match us, hl with | [_, _], _ => rfl)
  have h_bin_mul : HasBn P w K mg base (He.ga K "Ratio") "mul" 5 F_Ratio___mul__ := ⟨_, binB_ok (c.chk 8 (x := binB "mul") rfl), ⟨fd_Ratio___mul__, b_Ratio___mul__, r_Ratio___mul__⟩⟩
  have r_power_of : FJ P w K mg base (He.ga K "Ratio") 6 _ fd_power_of ["value", "order"] (runBody 4 d_power_of) := (ok_power_of E h_Ratio h_bin_mul Q_power_of)
  have b_power_of : Binds K fd_power_of ["value", "order"] [] := (FunD.bindsN (ps := ["value", "order"]) Q_power_of fun _ _ _ _ _ _ us hl => match us, hl with | [_, _], _ => rfl)
  have h_power_of : Has P w K mg base (He.ga K "Ratio") "power_of" 6 ["value", "order"] F_power_of := ⟨_, fd_power_of, He.glo_ok X G (c.fact 22 (f := .glo "power_of") rfl), Q_power_of.kp, b_power_of, r_power_of⟩
  have r_Moments_scaled : FJ P w K mg base (He.ga K "Ratio") 7 _ fd_Moments_scaled ["self", "number"] (runBody 6 d_Moments_scaled) := (ok_Moments_scaled E h_need_number h_ratio_of h_power_of h_bin_mul h_new_Moments_0__order_kept_001 Q_Moments_scaled)
  have b_Moments_scaled : Binds K fd_Moments_scaled ["self", "number"] [] := (FunD.bindsN (ps := ["self", "number"]) Q_Moments_scaled fun _ _ _ _ _ _ us hl => match us, hl with | [_, _], _ => rfl)
  have h_nm_Moments_scaled : HasMN P w K mg base (He.ga K "Ratio") "Moments" "scaled" 7 ["self", "number"] F_Moments_scaled := ⟨He.cls_ok (c.fact 44 (f := .cls "Moments") rfl), _, He.meth_ok (c.fact 54 (f := .meth "Moments" "scaled") rfl), ⟨fd_Moments_scaled, b_Moments_scaled, r_Moments_scaled⟩⟩
  have r_choices : FJ P w K mg base (He.ga K "Ratio") 1 _ fd_choices ["order"] (runBody 5 d_choices) := (ok_choices E  Q_choices)
  have b_choices : Binds K fd_choices ["order"] [] := (FunD.bindsN (ps := ["order"]) Q_choices fun _ _ _ _ _ _ us hl => match us, hl with | [_], _ => rfl)
  have h_choices : Has P w K mg base (He.ga K "Ratio") "choices" 1 ["order"] F_choices := ⟨_, fd_choices, He.glo_ok X G (c.fact 23 (f := .glo "choices") rfl), Q_choices.kp, b_choices, r_choices⟩
  have r_shifted_sum : FJ P w K mg base (He.ga K "Ratio") 7 _ fd_shifted_sum ["many", "sums", "power", "by"] (runBody 8 d_shifted_sum) := (ok_shifted_sum E h_Ratio h_bin_add h_choices h_bin_mul h_power_of Q_shifted_sum)
  have b_shifted_sum : Binds K fd_shifted_sum ["many", "sums", "power", "by"] [] := (FunD.bindsN (ps := ["many", "sums", "power", "by"]) Q_shifted_sum fun _ _ _ _ _ _ us hl => match us, hl with | [_, _, _, _], _ => rfl)
  have h_shifted_sum : Has P w K mg base (He.ga K "Ratio") "shifted_sum" 7 ["many", "sums", "power", "by"] F_shifted_sum := ⟨_, fd_shifted_sum, He.glo_ok X G (c.fact 24 (f := .glo "shifted_sum") rfl), Q_shifted_sum.kp, b_shifted_sum, r_shifted_sum⟩
  have r_Moments_shifted : FJ P w K mg base (He.ga K "Ratio") 8 _ fd_Moments_shifted ["self", "number"] (runBody 5 d_Moments_shifted) := (ok_Moments_shifted E h_need_number h_ratio_of h_shifted_sum h_new_Moments_0__order_kept_001 Q_Moments_shifted)
  have b_Moments_shifted : Binds K fd_Moments_shifted ["self", "number"] [] := (FunD.bindsN (ps := ["self", "number"]) Q_Moments_shifted fun _ _ _ _ _ _ us hl => match us, hl with | [_, _], _ => rfl)
  have h_nm_Moments_shifted : HasMN P w K mg base (He.ga K "Ratio") "Moments" "shifted" 8 ["self", "number"] F_Moments_shifted := ⟨He.cls_ok (c.fact 44 (f := .cls "Moments") rfl), _, He.meth_ok (c.fact 55 (f := .meth "Moments" "shifted") rfl), ⟨fd_Moments_shifted, b_Moments_shifted, r_Moments_shifted⟩⟩
  have r_Moments_sums : FJ P w K mg base (He.ga K "Ratio") 1 _ fd_Moments_sums ["self"] (runBody 1 d_Moments_sums) := (ok_Moments_sums E  Q_Moments_sums)
  have b_Moments_sums : Binds K fd_Moments_sums ["self"] [] := (FunD.bindsN (ps := ["self"]) Q_Moments_sums fun _ _ _ _ _ _ us hl => match us, hl with | [_], _ => rfl)
  have h_npr_Moments_sums : HasPN P w K mg base (He.ga K "Ratio") "Moments" "sums" 1 F_Moments_sums := ⟨He.cls_ok (c.fact 44 (f := .cls "Moments") rfl), _, _, fd_Moments_sums, propNB_ok (c.chk 14 (x := propNB "Moments" "sums") rfl), r_Moments_sums, b_Moments_sums⟩
  have r_Ratio_bottom : FJ P w K mg base (He.ga K "Ratio") 1 _ fd_Ratio_bottom ["self"] (runBody 1 d_Ratio_bottom) := (ok_Ratio_bottom E  Q_Ratio_bottom)
  have b_Ratio_bottom : Binds K fd_Ratio_bottom ["self"] [] := (FunD.bindsN (ps := ["self"]) Q_Ratio_bottom fun _ _ _ _ _ _ us hl => match us, hl with | [_], _ => rfl)
  have h_bottom : HasP P w K mg base (He.ga K "Ratio") "bottom" 1 F_bottom := ⟨_, _, fd_Ratio_bottom, propB_ok (c.chk 9 (x := propB "bottom") rfl), b_Ratio_bottom, FJ.imp r_Ratio_bottom PC.b_bottom⟩
  have r_Ratio_top : FJ P w K mg base (He.ga K "Ratio") 1 _ fd_Ratio_top ["self"] (runBody 1 d_Ratio_top) := (ok_Ratio_top E  Q_Ratio_top)
  have b_Ratio_top : Binds K fd_Ratio_top ["self"] [] := (FunD.bindsN (ps := ["self"]) Q_Ratio_top fun _ _ _ _ _ _ us hl => match us, hl with | [_], _ => rfl)
  have h_top : HasP P w K mg base (He.ga K "Ratio") "top" 1 F_top := ⟨_, _, fd_Ratio_top, propB_ok (c.chk 10 (x := propB "top") rfl), b_Ratio_top, FJ.imp r_Ratio_top PC.b_top⟩
  have r_w_taken : FJ P w K mg base (He.ga K "Ratio") 3 _ fd_w_taken ["_law_value"] (runBody 1 d_w_taken) := (ok_w_taken E h_bottom h_top Q_w_taken)
  have b_w_taken : Binds K fd_w_taken ["_law_value"] [] := (FunD.bindsN (ps := ["_law_value"]) Q_w_taken fun _ _ _ _ _ _ us hl => match us, hl with | [_], _ => rfl)
  have h_w_taken : Has P w K mg base (He.ga K "Ratio") "_law_taken" 3 ["_law_value"] F_w_taken := ⟨_, fd_w_taken, He.glo_ok X G (c.fact 25 (f := .glo "_law_taken") rfl), Q_w_taken.kp, b_w_taken, r_w_taken⟩
  have r_w_all_taken : FJ P w K mg base (He.ga K "Ratio") 4 _ fd_w_all_taken ["_law_values"] (runBody 2 d_w_all_taken) := (ok_w_all_taken E h_w_taken Q_w_all_taken)
  have b_w_all_taken : Binds K fd_w_all_taken ["_law_values"] [] := (FunD.bindsN (ps := ["_law_values"]) Q_w_all_taken fun _ _ _ _ _ _ us hl => match us, hl with | [_], _ => rfl)
  have h_w_all_taken : Has P w K mg base (He.ga K "Ratio") "_law_all_taken" 4 ["_law_values"] F_w_all_taken := ⟨_, fd_w_all_taken, He.glo_ok X G (c.fact 26 (f := .glo "_law_all_taken") rfl), Q_w_all_taken.kp, b_w_all_taken, r_w_all_taken⟩
  have r_Summary_size : FJ P w K mg base (He.ga K "Ratio") 1 _ fd_Summary_size ["self"] (runBody 1 d_Summary_size) := (ok_Summary_size E  Q_Summary_size)
  have b_Summary_size : Binds K fd_Summary_size ["self"] [] := (FunD.bindsN (ps := ["self"]) Q_Summary_size fun _ _ _ _ _ _ us hl => match us, hl with | [_], _ => rfl)
  have q_h_npr_Moments_size := of_decide_eq_true (c.chk 16 (x := fun K => decide (getAdN "Summary" "size" K = getAdN "Moments" "size" K)) rfl)
  have h_npr_Moments_size : HasPN P w K mg base (He.ga K "Ratio") "Moments" "size" 1 F_Summary_size := ⟨He.cls_ok (c.fact 44 (f := .cls "Moments") rfl), _, _, fd_Summary_size, propNB_ok (c.chk 15 (x := propNB "Moments" "size") rfl), (q_h_npr_Moments_size ▸ r_Summary_size), b_Summary_size⟩
  have r_Moments_order : FJ P w K mg base (He.ga K "Ratio") 1 _ fd_Moments_order ["self"] (runBody 1 d_Moments_order) := (ok_Moments_order E  Q_Moments_order)
  have b_Moments_order : Binds K fd_Moments_order ["self"] [] := (FunD.bindsN (ps := ["self"]) Q_Moments_order fun _ _ _ _ _ _ us hl => match us, hl with | [_], _ => rfl)
  have h_npr_Moments_order : HasPN P w K mg base (He.ga K "Ratio") "Moments" "order" 1 F_Moments_order := ⟨He.cls_ok (c.fact 44 (f := .cls "Moments") rfl), _, _, fd_Moments_order, propNB_ok (c.chk 17 (x := propNB "Moments" "order") rfl), r_Moments_order, b_Moments_order⟩
  have r_w_minus : FJ P w K mg base (He.ga K "Ratio") 2 _ fd_w_minus ["_law_one", "_law_other"] (runBody 2 d_w_minus) := (ok_w_minus E h_w_low Q_w_minus)
  have b_w_minus : Binds K fd_w_minus ["_law_one", "_law_other"] [] := (FunD.bindsN (ps := ["_law_one", "_law_other"]) Q_w_minus fun _ _ _ _ _ _ us hl => match us, hl with | [_, _], _ => rfl)
  have h_w_minus : Has P w K mg base (He.ga K "Ratio") "_law_minus" 2 ["_law_one", "_law_other"] F_w_minus := ⟨_, fd_w_minus, He.glo_ok X G (c.fact 27 (f := .glo "_law_minus") rfl), Q_w_minus.kp, b_w_minus, r_w_minus⟩
  have r_is_same_kind : FJ P w K mg base (He.ga K "Ratio") 1 _ fd_is_same_kind ["one", "other"] (runBody 2 d_is_same_kind) := (ok_is_same_kind E h_isn_Summary Q_is_same_kind)
  have b_is_same_kind : Binds K fd_is_same_kind ["one", "other"] [] := (FunD.bindsN (ps := ["one", "other"]) Q_is_same_kind fun _ _ _ _ _ _ us hl => match us, hl with | [_, _], _ => rfl)
  have h_is_same_kind : Has P w K mg base (He.ga K "Ratio") "is_same_kind" 1 ["one", "other"] F_is_same_kind := ⟨_, fd_is_same_kind, He.glo_ok X G (c.fact 28 (f := .glo "is_same_kind") rfl), Q_is_same_kind.kp, b_is_same_kind, r_is_same_kind⟩
  have r_Ratio___eq__ : FJ P w K mg base (He.ga K "Ratio") 5 _ fd_Ratio___eq__ ["self", "other"] (runBody 3 d_Ratio___eq__) := (ok_Ratio___eq__ E h_is_number_ratios h_ratio_of Q_Ratio___eq__)
  have b_Ratio___eq__ : Binds K fd_Ratio___eq__ ["self", "other"] [] := (FunD.bindsN (ps := ["self", "other"]) Q_Ratio___eq__ fun _ _ _ _ _ _ us hl => match us, hl with | [_, _], _ => rfl)
  have h_cmp : HasCm P w K mg base (He.ga K "Ratio") 5 F_Ratio___eq__ := ⟨(cmpB_ok (c.chk 11 (x := cmpB) rfl)).1, _, (cmpB_ok (c.chk 11 (x := cmpB) rfl)).2, ⟨fd_Ratio___eq__, b_Ratio___eq__, r_Ratio___eq__⟩⟩
  have r_Moments___eq__ : FJ P w K mg base (He.ga K "Ratio") 8 _ fd_Moments___eq__ ["self", "other"] (runBody 2 d_Moments___eq__) := (ok_Moments___eq__ E h_is_same_kind h_cmp Q_Moments___eq__)
  have b_Moments___eq__ : Binds K fd_Moments___eq__ ["self", "other"] [] := (FunD.bindsN (ps := ["self", "other"]) Q_Moments___eq__ fun _ _ _ _ _ _ us hl => match us, hl with | [_, _], _ => rfl)
  have h_neq_Moments : HasEN P w K mg base (He.ga K "Ratio") "Moments" ["Summary", "Moments"] 8 F_Moments___eq__ := ⟨_, cmpN_ok (c.chk 18 (x := cmpNB "Moments" ["Summary", "Moments"]) rfl), ⟨fd_Moments___eq__, b_Moments___eq__, r_Moments___eq__⟩⟩
  have r_w_through : FJ P w K mg base (He.ga K "Ratio") 2 _ fd_w_through ["_law_one", "_law_other"] (runBody 2 d_w_through) := (ok_w_through E h_w_low Q_w_through)
  have b_w_through : Binds K fd_w_through ["_law_one", "_law_other"] [] := (FunD.bindsN (ps := ["_law_one", "_law_other"]) Q_w_through fun _ _ _ _ _ _ us hl => match us, hl with | [_, _], _ => rfl)
  have h_w_through : Has P w K mg base (He.ga K "Ratio") "_law_through" 2 ["_law_one", "_law_other"] F_w_through := ⟨_, fd_w_through, He.glo_ok X G (c.fact 29 (f := .glo "_law_through") rfl), Q_w_through.kp, b_w_through, r_w_through⟩
  have r_w_moved_right : FJ P w K mg base (He.ga K "Ratio") 11 _ fd_w_moved_right ["_law_some", "_law_most", "_law_step", "_law_factor"] (runBody 13 d_w_moved_right_k38) := (ok_w_moved_right E h_w_powers h_w_fed_moments h_w_given h_nm_Moments_scaled h_nm_Moments_shifted h_w_plus h_w_times h_npr_Moments_sums h_w_all_taken h_npr_Moments_size h_npr_Moments_order h_w_minus h_neq_Moments h_w_through Q_w_moved_right)
  have b_w_moved_right : Binds K fd_w_moved_right ["_law_some", "_law_most", "_law_step", "_law_factor"] [] := (FunD.bindsN (ps := ["_law_some", "_law_most", "_law_step", "_law_factor"]) Q_w_moved_right fun _ _ _ _ _ _ us hl => match us, hl with | [_, _, _, _], _ => rfl)
  have h_w_moved_right : Has P w K mg base (He.ga K "Ratio") "_law_moved_right" 11 ["_law_some", "_law_most", "_law_step", "_law_factor"] F_w_moved_right_k38 := ⟨_, fd_w_moved_right, He.glo_ok X G (c.fact 30 (f := .glo "_law_moved_right") rfl), Q_w_moved_right.kp, b_w_moved_right, r_w_moved_right⟩
  have r_Moments_copied : FJ P w K mg base (He.ga K "Ratio") 6 _ fd_Moments_copied ["self"] (runBody 1 d_Moments_copied) := (ok_Moments_copied E h_new_Moments_0__order_kept_001 Q_Moments_copied)
  have b_Moments_copied : Binds K fd_Moments_copied ["self"] [] := (FunD.bindsN (ps := ["self"]) Q_Moments_copied fun _ _ _ _ _ _ us hl => match us, hl with | [_], _ => rfl)
  have h_nm_Moments_copied : HasMN P w K mg base (He.ga K "Ratio") "Moments" "copied" 6 ["self"] F_Moments_copied := ⟨He.cls_ok (c.fact 44 (f := .cls "Moments") rfl), _, He.meth_ok (c.fact 56 (f := .meth "Moments" "copied") rfl), ⟨fd_Moments_copied, b_Moments_copied, r_Moments_copied⟩⟩
  have r_w_apart_right : FJ P w K mg base (He.ga K "Ratio") 10 _ fd_w_apart_right ["_law_some", "_law_most"] (runBody 5 d_w_apart_right) := (ok_w_apart_right E h_w_powers h_w_fed_moments h_nm_Moments_copied h_nm_Moments_scaled h_nm_Moments_shifted h_nmv_Moments_feed h_npr_Moments_size h_npr_Moments_sums h_w_all_taken Q_w_apart_right)
  have b_w_apart_right : Binds K fd_w_apart_right ["_law_some", "_law_most"] [] := (FunD.bindsN (ps := ["_law_some", "_law_most"]) Q_w_apart_right fun _ _ _ _ _ _ us hl => match us, hl with | [_, _], _ => rfl)
  have h_w_apart_right : Has P w K mg base (He.ga K "Ratio") "_law_apart_right" 10 ["_law_some", "_law_most"] F_w_apart_right := ⟨_, fd_w_apart_right, He.glo_ok X G (c.fact 31 (f := .glo "_law_apart_right") rfl), Q_w_apart_right.kp, b_w_apart_right, r_w_apart_right⟩
  exact (ok_law E h_w_source h_w_row h_w_next h_w_drawn h_w_moved_right h_w_apart_right Q_law)
end Gk38
namespace PD
open PySem L3 LD PC
/-- sizes for central sums: at most N values by D, B; powers up to the a-th -/
structure Cs (D B N a : Nat) : Prop where
  d : 0 < D
  n : N ≤ 20
  n0 : 1 ≤ N
  b : 1 ≤ B
  le : a ≤ 1000
  m : Sm (D * 232792560) (N * B + B)
  p : ∀ j ≤ a, Sm ((D * 232792560) ^ j) ((N * B + B) ^ j)
  s : Sm ((D * 232792560) ^ a) (N * (N * B + B) ^ a + (N * B + B) ^ a)
/-- the mean -/
def mn (qs : List Rat) : Rat := sumQ qs / ((qs.length : Int) : Rat)
section
variable {D B N a : Nat} {qs : List Rat}
theorem Cs.pow (c : Cs D B N a) {x : Rat} (h : Zd (D * 232792560) (N * B + B) x) : ∀ j ≤ a, Zb (x ^ j) 3990 := fun j hj => (h.pow j).sm (c.p j hj)
theorem Cs.one (c : Cs D B N a) {x : Rat} (h : Zd (D * 232792560) (N * B + B) x) : Zb x 3990 := h.sm c.m
theorem powerR_loop {x : Rat} {z : Nat} {a : Nat} (h : Zb x z) (hp : ∀ j ≤ a, Zb (x ^ j) z) (hz : z ≤ 4000) (mu : List MO) (k : PV) : ∀ (n j : Nat) (i0 : Int) (o : Option SV), j + n ≤ a →
    ∃ o', forL (gN 3) b_power_of_1 ((List.range n).map fun (k : Nat) => .int (i0 + (k : Int))) ⟨[some (.val (.rat x)), some (.val k), some (.val (.rat (x ^ j))), o], mu⟩ = .ok .nx ⟨[some (.val (.rat x)), some (.val k), some (.val (.rat (x ^ (j + n)))), o'], mu⟩ := by
  intro n
  induction n with
  | zero => exact fun j i0 o _ => ⟨o, rfl⟩
  | succ n ih =>
    intro j i0 o hj
    have e := e_mul (p := .rat x) (hp j (by omega)) h (.inl rfl) (by omega) mu
    rw [← Rat.pow_succ] at e
    obtain ⟨o', e2⟩ := ih (j + 1) (i0 + 1) (some (.val (.int i0))) (by omega)
    refine ⟨o', ?_⟩
    rw [List.range_succ_eq_map, List.map_cons, List.map_map]
    have e3 : (List.range n).map ((fun (k : Nat) => PV.int (i0 + (k : Int))) ∘ Nat.succ) = (List.range n).map fun (k : Nat) => .int (i0 + 1 + (k : Int)) := by
      refine List.map_congr_left fun k _ => ?_
      show PV.int (i0 + ((k + 1 : Nat) : Int)) = _
      congr 1
      omega
    rw [e3]
    unfold forL b_power_of_1
    simp [gRL, e]
    unfold b_power_of_1 at e2
    simpa [Nat.add_assoc, Nat.add_comm 1 n, gRL] using e2
theorem e_power_of {x : Rat} {z : Nat} {i : Int} (h : Zb x z) (hp : ∀ j ≤ i.toNat, Zb (x ^ j) z) (hz : z ≤ 4000) (h0 : 0 ≤ i) (ha : i ≤ 1000) (mu : List MO) : F_power_of [.rat x, .int i] mu = .ok (.rat (x ^ i.toNat)) mu := by
  obtain ⟨o', e⟩ := powerR_loop h hp hz mu (.int i) i.toNat 0 0 none (by omega)
  have hb : (-4611686018427387904 : Int) ≤ i ∧ i < 4611686018427387904 := by omega
  rw [Rat.pow_zero, Nat.zero_add] at e
  have er : rangeP 0 i.toNat = (List.range i.toNat).map fun (k : Nat) => PV.int (0 + (k : Int)) := rfl
  rw [← er] at e
  have e1 : (Rat.divInt 1 1) = 1 := by decide +kernel
  have o1 : okR 1 1 = true := by decide
  simp [F_power_of, runBody, d_power_of, hb, e1, o1, e]
end
end PD
namespace L3
section
variable {s : S} {Q : PV → S → Prop} {da db dc : DE} {dr dk : DA} {F FR : DF} {n m : Nat} {dps : List PV} {h : PV → PV → S → R S PV} {h1 : PV → S → R S PV} {gP : List PV → List PV → List PV}
theorem W_dFnD : W (dFnD F n dps dr s) Q = W (dr s) (fun ps s1 => ps.length = n ∧ W (F (ps ++ dps) s1.mu) (fun v mu => Q v ⟨s1.env, mu⟩)) := by
  show W ((dr s).bind _) Q = _
  rw [W_bind]
  congr 1
  funext ps s1
  by_cases z : ps.length = n
  · rw [if_pos z, W_fnS]; simp [z]
  · rw [if_neg z]; simp [z]
@[simp ↓] theorem I_dFnD : WI (dFnD F n dps dr s) (K := ⟨Q⟩) = WI (dr s) (K := ⟨(fun ps s1 => ps.length = n ∧ WI (F (ps ++ dps) s1.mu) (K := ⟨(fun v mu => Q v ⟨s1.env, mu⟩)⟩))⟩) := W_dFnD
theorem W_dFnK : W (dFnK F n m gP dr dk s) Q = W (dr s) (fun ps s1 => W (dk s1) fun zs s2 => (ps.length = n ∧ zs.length = m) ∧ W (F (gP ps zs) s2.mu) (fun v mu => Q v ⟨s2.env, mu⟩)) := by
  show W ((dr s).bind _) Q = _
  rw [W_bind]
  congr 1
  funext ps s1
  rw [W_bind]
  congr 1
  funext zs s2
  by_cases z : ps.length = n ∧ zs.length = m
  · rw [if_pos z, W_fnS]; simp [z]
  · rw [if_neg z]; simp only [W_bad, z, false_and]
@[simp ↓] theorem I_dFnK : WI (dFnK F n m gP dr dk s) (K := ⟨Q⟩) = WI (dr s) (K := ⟨(fun ps s1 => WI (dk s1) (K := ⟨fun zs s2 => (ps.length = n ∧ zs.length = m) ∧ WI (F (gP ps zs) s2.mu) (K := ⟨(fun v mu => Q v ⟨s2.env, mu⟩)⟩)⟩))⟩) := W_dFnK
theorem fmt2 {a b : PV} : W (fMt 2 F [a, b] s) Q = W (F [a, b] s.mu) (fun v mu => Q v ⟨s.env, mu⟩) := by rw [W_fMt]; simp
theorem fmt1 {a : PV} : W (fMt 1 F [a] s) Q = W (F [a] s.mu) (fun v mu => Q v ⟨s.env, mu⟩) := by rw [W_fMt]; simp
theorem W_gRL_rat {a : Rat} {b : Rat} : W (gRL F h (.rat a) (.rat b) s) Q = W (F [.rat a, (.rat b)] s.mu) (fun v mu => Q v ⟨s.env, mu⟩) := fmt2
@[simp ↓] theorem I_gRL_rat {a : Rat} {b : Rat} : WI (gRL F h (.rat a) (.rat b) s) (K := ⟨Q⟩) = WI (F [.rat a, (.rat b)] s.mu) (K := ⟨(fun v mu => Q v ⟨s.env, mu⟩)⟩) := W_gRL_rat
theorem W_gRR_rat {a : Rat} {b : Rat} : W (gRR F FR h (.rat a) (.rat b) s) Q = W (F [.rat a, (.rat b)] s.mu) (fun v mu => Q v ⟨s.env, mu⟩) := fmt2
@[simp ↓] theorem I_gRR_rat {a : Rat} {b : Rat} : WI (gRR F FR h (.rat a) (.rat b) s) (K := ⟨Q⟩) = WI (F [.rat a, (.rat b)] s.mu) (K := ⟨(fun v mu => Q v ⟨s.env, mu⟩)⟩) := W_gRR_rat
theorem W_gRL_int {a : Rat} {b : Int} : W (gRL F h (.rat a) (.int b) s) Q = W (F [.rat a, (.int b)] s.mu) (fun v mu => Q v ⟨s.env, mu⟩) := fmt2
@[simp ↓] theorem I_gRL_int {a : Rat} {b : Int} : WI (gRL F h (.rat a) (.int b) s) (K := ⟨Q⟩) = WI (F [.rat a, (.int b)] s.mu) (K := ⟨(fun v mu => Q v ⟨s.env, mu⟩)⟩) := W_gRL_int
theorem W_gRR_int {a : Rat} {b : Int} : W (gRR F FR h (.rat a) (.int b) s) Q = W (F [.rat a, (.int b)] s.mu) (fun v mu => Q v ⟨s.env, mu⟩) := fmt2
@[simp ↓] theorem I_gRR_int {a : Rat} {b : Int} : WI (gRR F FR h (.rat a) (.int b) s) (K := ⟨Q⟩) = WI (F [.rat a, (.int b)] s.mu) (K := ⟨(fun v mu => Q v ⟨s.env, mu⟩)⟩) := W_gRR_int
theorem W_gRR_ir {a : Int} {b : Rat} : W (gRR F FR h (.int a) (.rat b) s) Q = W (FR [.rat b, .int a] s.mu) (fun v mu => Q v ⟨s.env, mu⟩) := fmt2
@[simp ↓] theorem I_gRR_ir {a : Int} {b : Rat} : WI (gRR F FR h (.int a) (.rat b) s) (K := ⟨Q⟩) = WI (FR [.rat b, .int a] s.mu) (K := ⟨(fun v mu => Q v ⟨s.env, mu⟩)⟩) := W_gRR_ir
theorem W_gRR_ii {a b : Int} : W (gRR F FR h (.int a) (.int b) s) Q = W (h (.int a) (.int b) s) Q := rfl
@[simp ↓] theorem I_gRR_ii {a b : Int} : WI (gRR F FR h (.int a) (.int b) s) (K := ⟨Q⟩) = WI (h (.int a) (.int b) s) (K := ⟨Q⟩) := W_gRR_ii
theorem W_gEqR_rat {a : Rat} {b : Rat} : W (gEqR F h (.rat a) (.rat b) s) Q = W (F [.rat a, (.rat b)] s.mu) (fun v mu => Q v ⟨s.env, mu⟩) := fmt2
@[simp ↓] theorem I_gEqR_rat {a : Rat} {b : Rat} : WI (gEqR F h (.rat a) (.rat b) s) (K := ⟨Q⟩) = WI (F [.rat a, (.rat b)] s.mu) (K := ⟨(fun v mu => Q v ⟨s.env, mu⟩)⟩) := W_gEqR_rat
theorem W_gNeR_rat {a : Rat} {b : Rat} : W (gNeR F h (.rat a) (.rat b) s) Q = W (F [.rat a, (.rat b)] s.mu) (fun v mu => W (notK v ⟨s.env, mu⟩) Q) := W_bind.trans fmt2
@[simp ↓] theorem I_gNeR_rat {a : Rat} {b : Rat} : WI (gNeR F h (.rat a) (.rat b) s) (K := ⟨Q⟩) = WI (F [.rat a, (.rat b)] s.mu) (K := ⟨(fun v mu => WI (notK v ⟨s.env, mu⟩) (K := ⟨Q⟩))⟩) := W_gNeR_rat
theorem W_gEqR_int {a : Rat} {b : Int} : W (gEqR F h (.rat a) (.int b) s) Q = W (F [.rat a, (.int b)] s.mu) (fun v mu => Q v ⟨s.env, mu⟩) := fmt2
@[simp ↓] theorem I_gEqR_int {a : Rat} {b : Int} : WI (gEqR F h (.rat a) (.int b) s) (K := ⟨Q⟩) = WI (F [.rat a, (.int b)] s.mu) (K := ⟨(fun v mu => Q v ⟨s.env, mu⟩)⟩) := W_gEqR_int
theorem W_gNeR_int {a : Rat} {b : Int} : W (gNeR F h (.rat a) (.int b) s) Q = W (F [.rat a, (.int b)] s.mu) (fun v mu => W (notK v ⟨s.env, mu⟩) Q) := W_bind.trans fmt2
@[simp ↓] theorem I_gNeR_int {a : Rat} {b : Int} : WI (gNeR F h (.rat a) (.int b) s) (K := ⟨Q⟩) = WI (F [.rat a, (.int b)] s.mu) (K := ⟨(fun v mu => WI (notK v ⟨s.env, mu⟩) (K := ⟨Q⟩))⟩) := W_gNeR_int
theorem W_gEqR_bl {a : Rat} {b : Bool} : W (gEqR F h (.rat a) (.bl b) s) Q = W (F [.rat a, (.bl b)] s.mu) (fun v mu => Q v ⟨s.env, mu⟩) := fmt2
@[simp ↓] theorem I_gEqR_bl {a : Rat} {b : Bool} : WI (gEqR F h (.rat a) (.bl b) s) (K := ⟨Q⟩) = WI (F [.rat a, (.bl b)] s.mu) (K := ⟨(fun v mu => Q v ⟨s.env, mu⟩)⟩) := W_gEqR_bl
theorem W_gNeR_bl {a : Rat} {b : Bool} : W (gNeR F h (.rat a) (.bl b) s) Q = W (F [.rat a, (.bl b)] s.mu) (fun v mu => W (notK v ⟨s.env, mu⟩) Q) := W_bind.trans fmt2
@[simp ↓] theorem I_gNeR_bl {a : Rat} {b : Bool} : WI (gNeR F h (.rat a) (.bl b) s) (K := ⟨Q⟩) = WI (F [.rat a, (.bl b)] s.mu) (K := ⟨(fun v mu => WI (notK v ⟨s.env, mu⟩) (K := ⟨Q⟩))⟩) := W_gNeR_bl
theorem W_gEqR_str {a : Rat} {b : PySem.Str} : W (gEqR F h (.rat a) (.str b) s) Q = W (F [.rat a, (.str b)] s.mu) (fun v mu => Q v ⟨s.env, mu⟩) := fmt2
@[simp ↓] theorem I_gEqR_str {a : Rat} {b : PySem.Str} : WI (gEqR F h (.rat a) (.str b) s) (K := ⟨Q⟩) = WI (F [.rat a, (.str b)] s.mu) (K := ⟨(fun v mu => Q v ⟨s.env, mu⟩)⟩) := W_gEqR_str
theorem W_gNeR_str {a : Rat} {b : PySem.Str} : W (gNeR F h (.rat a) (.str b) s) Q = W (F [.rat a, (.str b)] s.mu) (fun v mu => W (notK v ⟨s.env, mu⟩) Q) := W_bind.trans fmt2
@[simp ↓] theorem I_gNeR_str {a : Rat} {b : PySem.Str} : WI (gNeR F h (.rat a) (.str b) s) (K := ⟨Q⟩) = WI (F [.rat a, (.str b)] s.mu) (K := ⟨(fun v mu => WI (notK v ⟨s.env, mu⟩) (K := ⟨Q⟩))⟩) := W_gNeR_str
theorem W_gEqR_non {a : Rat} : W (gEqR F h (.rat a) .non s) Q = W (F [.rat a, .non] s.mu) (fun v mu => Q v ⟨s.env, mu⟩) := fmt2
@[simp ↓] theorem I_gEqR_non {a : Rat} : WI (gEqR F h (.rat a) .non s) (K := ⟨Q⟩) = WI (F [.rat a, .non] s.mu) (K := ⟨(fun v mu => Q v ⟨s.env, mu⟩)⟩) := W_gEqR_non
theorem W_gNeR_non {a : Rat} : W (gNeR F h (.rat a) .non s) Q = W (F [.rat a, .non] s.mu) (fun v mu => W (notK v ⟨s.env, mu⟩) Q) := W_bind.trans fmt2
@[simp ↓] theorem I_gNeR_non {a : Rat} : WI (gNeR F h (.rat a) .non s) (K := ⟨Q⟩) = WI (F [.rat a, .non] s.mu) (K := ⟨(fun v mu => WI (notK v ⟨s.env, mu⟩) (K := ⟨Q⟩))⟩) := W_gNeR_non
theorem W_gRL_lnon {q : PV} : W (gRL F h .non q s) Q = W (h .non q s) Q := rfl
@[simp ↓] theorem I_gRL_lnon {q : PV} : WI (gRL F h .non q s) (K := ⟨Q⟩) = WI (h .non q s) (K := ⟨Q⟩) := W_gRL_lnon
theorem W_gEqR_lnon {q : PV} : W (gEqR F h .non q s) Q = W (h .non q s) Q := rfl
@[simp ↓] theorem I_gEqR_lnon {q : PV} : WI (gEqR F h .non q s) (K := ⟨Q⟩) = WI (h .non q s) (K := ⟨Q⟩) := W_gEqR_lnon
theorem W_gNeR_lnon {q : PV} : W (gNeR F h .non q s) Q = W (h .non q s) Q := rfl
@[simp ↓] theorem I_gNeR_lnon {q : PV} : WI (gNeR F h .non q s) (K := ⟨Q⟩) = WI (h .non q s) (K := ⟨Q⟩) := W_gNeR_lnon
theorem W_gRL_lbl {x : Bool} {q : PV} : W (gRL F h (.bl x) q s) Q = W (h (.bl x) q s) Q := rfl
@[simp ↓] theorem I_gRL_lbl {x : Bool} {q : PV} : WI (gRL F h (.bl x) q s) (K := ⟨Q⟩) = WI (h (.bl x) q s) (K := ⟨Q⟩) := W_gRL_lbl
theorem W_gEqR_lbl {x : Bool} {q : PV} : W (gEqR F h (.bl x) q s) Q = W (h (.bl x) q s) Q := rfl
@[simp ↓] theorem I_gEqR_lbl {x : Bool} {q : PV} : WI (gEqR F h (.bl x) q s) (K := ⟨Q⟩) = WI (h (.bl x) q s) (K := ⟨Q⟩) := W_gEqR_lbl
theorem W_gNeR_lbl {x : Bool} {q : PV} : W (gNeR F h (.bl x) q s) Q = W (h (.bl x) q s) Q := rfl
@[simp ↓] theorem I_gNeR_lbl {x : Bool} {q : PV} : WI (gNeR F h (.bl x) q s) (K := ⟨Q⟩) = WI (h (.bl x) q s) (K := ⟨Q⟩) := W_gNeR_lbl
theorem W_gRL_lint {x : Int} {q : PV} : W (gRL F h (.int x) q s) Q = W (h (.int x) q s) Q := rfl
@[simp ↓] theorem I_gRL_lint {x : Int} {q : PV} : WI (gRL F h (.int x) q s) (K := ⟨Q⟩) = WI (h (.int x) q s) (K := ⟨Q⟩) := W_gRL_lint
theorem W_gEqR_lint {x : Int} {q : PV} : W (gEqR F h (.int x) q s) Q = W (h (.int x) q s) Q := rfl
@[simp ↓] theorem I_gEqR_lint {x : Int} {q : PV} : WI (gEqR F h (.int x) q s) (K := ⟨Q⟩) = WI (h (.int x) q s) (K := ⟨Q⟩) := W_gEqR_lint
theorem W_gNeR_lint {x : Int} {q : PV} : W (gNeR F h (.int x) q s) Q = W (h (.int x) q s) Q := rfl
@[simp ↓] theorem I_gNeR_lint {x : Int} {q : PV} : WI (gNeR F h (.int x) q s) (K := ⟨Q⟩) = WI (h (.int x) q s) (K := ⟨Q⟩) := W_gNeR_lint
theorem W_gRL_lstr {x : PySem.Str} {q : PV} : W (gRL F h (.str x) q s) Q = W (h (.str x) q s) Q := rfl
@[simp ↓] theorem I_gRL_lstr {x : PySem.Str} {q : PV} : WI (gRL F h (.str x) q s) (K := ⟨Q⟩) = WI (h (.str x) q s) (K := ⟨Q⟩) := W_gRL_lstr
theorem W_gEqR_lstr {x : PySem.Str} {q : PV} : W (gEqR F h (.str x) q s) Q = W (h (.str x) q s) Q := rfl
@[simp ↓] theorem I_gEqR_lstr {x : PySem.Str} {q : PV} : WI (gEqR F h (.str x) q s) (K := ⟨Q⟩) = WI (h (.str x) q s) (K := ⟨Q⟩) := W_gEqR_lstr
theorem W_gNeR_lstr {x : PySem.Str} {q : PV} : W (gNeR F h (.str x) q s) Q = W (h (.str x) q s) Q := rfl
@[simp ↓] theorem I_gNeR_lstr {x : PySem.Str} {q : PV} : WI (gNeR F h (.str x) q s) (K := ⟨Q⟩) = WI (h (.str x) q s) (K := ⟨Q⟩) := W_gNeR_lstr
theorem W_gRL_ltup {x : List PV} {q : PV} : W (gRL F h (.tup x) q s) Q = W (h (.tup x) q s) Q := rfl
@[simp ↓] theorem I_gRL_ltup {x : List PV} {q : PV} : WI (gRL F h (.tup x) q s) (K := ⟨Q⟩) = WI (h (.tup x) q s) (K := ⟨Q⟩) := W_gRL_ltup
theorem W_gEqR_ltup {x : List PV} {q : PV} : W (gEqR F h (.tup x) q s) Q = W (h (.tup x) q s) Q := rfl
@[simp ↓] theorem I_gEqR_ltup {x : List PV} {q : PV} : WI (gEqR F h (.tup x) q s) (K := ⟨Q⟩) = WI (h (.tup x) q s) (K := ⟨Q⟩) := W_gEqR_ltup
theorem W_gNeR_ltup {x : List PV} {q : PV} : W (gNeR F h (.tup x) q s) Q = W (h (.tup x) q s) Q := rfl
@[simp ↓] theorem I_gNeR_ltup {x : List PV} {q : PV} : WI (gNeR F h (.tup x) q s) (K := ⟨Q⟩) = WI (h (.tup x) q s) (K := ⟨Q⟩) := W_gNeR_ltup
theorem W_gRL_llst {x : List PV} {q : PV} : W (gRL F h (.lst x) q s) Q = W (h (.lst x) q s) Q := rfl
@[simp ↓] theorem I_gRL_llst {x : List PV} {q : PV} : WI (gRL F h (.lst x) q s) (K := ⟨Q⟩) = WI (h (.lst x) q s) (K := ⟨Q⟩) := W_gRL_llst
theorem W_gEqR_llst {x : List PV} {q : PV} : W (gEqR F h (.lst x) q s) Q = W (h (.lst x) q s) Q := rfl
@[simp ↓] theorem I_gEqR_llst {x : List PV} {q : PV} : WI (gEqR F h (.lst x) q s) (K := ⟨Q⟩) = WI (h (.lst x) q s) (K := ⟨Q⟩) := W_gEqR_llst
theorem W_gNeR_llst {x : List PV} {q : PV} : W (gNeR F h (.lst x) q s) Q = W (h (.lst x) q s) Q := rfl
@[simp ↓] theorem I_gNeR_llst {x : List PV} {q : PV} : WI (gNeR F h (.lst x) q s) (K := ⟨Q⟩) = WI (h (.lst x) q s) (K := ⟨Q⟩) := W_gNeR_llst
theorem W_gRL_lfrz {x : List PV} {q : PV} : W (gRL F h (.frz x) q s) Q = W (h (.frz x) q s) Q := rfl
@[simp ↓] theorem I_gRL_lfrz {x : List PV} {q : PV} : WI (gRL F h (.frz x) q s) (K := ⟨Q⟩) = WI (h (.frz x) q s) (K := ⟨Q⟩) := W_gRL_lfrz
theorem W_gEqR_lfrz {x : List PV} {q : PV} : W (gEqR F h (.frz x) q s) Q = W (h (.frz x) q s) Q := rfl
@[simp ↓] theorem I_gEqR_lfrz {x : List PV} {q : PV} : WI (gEqR F h (.frz x) q s) (K := ⟨Q⟩) = WI (h (.frz x) q s) (K := ⟨Q⟩) := W_gEqR_lfrz
theorem W_gNeR_lfrz {x : List PV} {q : PV} : W (gNeR F h (.frz x) q s) Q = W (h (.frz x) q s) Q := rfl
@[simp ↓] theorem I_gNeR_lfrz {x : List PV} {q : PV} : WI (gNeR F h (.frz x) q s) (K := ⟨Q⟩) = WI (h (.frz x) q s) (K := ⟨Q⟩) := W_gNeR_lfrz
theorem W_gRR_lstr {x : PySem.Str} {q : PV} : W (gRR F FR h (.str x) q s) Q = W (h (.str x) q s) Q := rfl
@[simp ↓] theorem I_gRR_lstr {x : PySem.Str} {q : PV} : WI (gRR F FR h (.str x) q s) (K := ⟨Q⟩) = WI (h (.str x) q s) (K := ⟨Q⟩) := W_gRR_lstr
theorem W_gRR_ltup {x : List PV} {q : PV} : W (gRR F FR h (.tup x) q s) Q = W (h (.tup x) q s) Q := rfl
@[simp ↓] theorem I_gRR_ltup {x : List PV} {q : PV} : WI (gRR F FR h (.tup x) q s) (K := ⟨Q⟩) = WI (h (.tup x) q s) (K := ⟨Q⟩) := W_gRR_ltup
theorem W_gRR_llst {x : List PV} {q : PV} : W (gRR F FR h (.lst x) q s) Q = W (h (.lst x) q s) Q := rfl
@[simp ↓] theorem I_gRR_llst {x : List PV} {q : PV} : WI (gRR F FR h (.lst x) q s) (K := ⟨Q⟩) = WI (h (.lst x) q s) (K := ⟨Q⟩) := W_gRR_llst
theorem W_gRR_lfrz {x : List PV} {q : PV} : W (gRR F FR h (.frz x) q s) Q = W (h (.frz x) q s) Q := rfl
@[simp ↓] theorem I_gRR_lfrz {x : List PV} {q : PV} : WI (gRR F FR h (.frz x) q s) (K := ⟨Q⟩) = WI (h (.frz x) q s) (K := ⟨Q⟩) := W_gRR_lfrz
theorem W_gR1_rat {a : Rat} : W (gR1 F h1 (.rat a)  s) Q = W (F [.rat a] s.mu) (fun v mu => Q v ⟨s.env, mu⟩) := fmt1
@[simp ↓] theorem I_gR1_rat {a : Rat} : WI (gR1 F h1 (.rat a)  s) (K := ⟨Q⟩) = WI (F [.rat a] s.mu) (K := ⟨(fun v mu => Q v ⟨s.env, mu⟩)⟩) := W_gR1_rat
theorem W_gR1_int {a : Int} : W (gR1 F h1 (.int a)  s) Q = W (h1 (.int a) s) Q := rfl
@[simp ↓] theorem I_gR1_int {a : Int} : WI (gR1 F h1 (.int a)  s) (K := ⟨Q⟩) = WI (h1 (.int a) s) (K := ⟨Q⟩) := W_gR1_int
theorem W_addL {xs ys : List PV} : W (gAdd (.lst xs) (.lst ys) s) Q = (xs.length + ys.length ≤ 16777216 ∧ Q (.lst (xs ++ ys)) s) := by
  show W (if xs.length + ys.length ≤ 16777216 then _ else _) Q = _
  by_cases z : xs.length + ys.length ≤ 16777216 <;> simp [z]
@[simp ↓] theorem I_addL {xs ys : List PV} : WI (gAdd (.lst xs) (.lst ys) s) (K := ⟨Q⟩) = (xs.length + ys.length ≤ 16777216 ∧ Q (.lst (xs ++ ys)) s) := W_addL
theorem W_addT {xs ys : List PV} : W (gAdd (.tup xs) (.tup ys) s) Q = (xs.length + ys.length ≤ 16777216 ∧ Q (.tup (xs ++ ys)) s) := by
  show W (if xs.length + ys.length ≤ 16777216 then _ else _) Q = _
  by_cases z : xs.length + ys.length ≤ 16777216 <;> simp [z]
@[simp ↓] theorem I_addT {xs ys : List PV} : WI (gAdd (.tup xs) (.tup ys) s) (K := ⟨Q⟩) = (xs.length + ys.length ≤ 16777216 ∧ Q (.tup (xs ++ ys)) s) := W_addT
theorem W_addS {xs ys : PySem.Str} : W (gAdd (.str xs) (.str ys) s) Q = (xs.length + ys.length ≤ 16777216 ∧ Q (.str (xs ++ ys)) s) := by
  show W (if xs.length + ys.length ≤ 16777216 then _ else _) Q = _
  by_cases z : xs.length + ys.length ≤ 16777216 <;> simp [z]
@[simp ↓] theorem I_addS {xs ys : PySem.Str} : WI (gAdd (.str xs) (.str ys) s) (K := ⟨Q⟩) = (xs.length + ys.length ≤ 16777216 ∧ Q (.str (xs ++ ys)) s) := W_addS
theorem W_mulI {i j : Int} : W (gMul (.int i) (.int j) s) Q = (ib i + ib j ≤ 1000000 ∧ Q (.int (i * j)) s) := by
  show W (if ib i + ib j ≤ 1000000 then _ else _) Q = _
  by_cases z : ib i + ib j ≤ 1000000 <;> simp [z]
@[simp ↓] theorem I_mulI {i j : Int} : WI (gMul (.int i) (.int j) s) (K := ⟨Q⟩) = (ib i + ib j ≤ 1000000 ∧ Q (.int (i * j)) s) := W_mulI
theorem W_mulL {xs : List PV} {k : Int} : W (gMul (.lst xs) (.int k) s) Q = ((-(2 ^ 63) ≤ k ∧ k < 2 ^ 63 ∧ xs.length * k.toNat ≤ 16777216) ∧ Q (.lst (List.replicate k.toNat xs).flatten) s) := by
  show W (if -(2 ^ 63) ≤ k ∧ k < 2 ^ 63 ∧ xs.length * k.toNat ≤ 16777216 then _ else _) Q = _
  by_cases z : -(2 ^ 63) ≤ k ∧ k < 2 ^ 63 ∧ xs.length * k.toNat ≤ 16777216
  · rw [if_pos z]; simp only [z, W_ok, and_self, true_and]
  · rw [if_neg z]; simp only [z, W_bad, false_and]
@[simp ↓] theorem I_mulL {xs : List PV} {k : Int} : WI (gMul (.lst xs) (.int k) s) (K := ⟨Q⟩) = ((-(2 ^ 63) ≤ k ∧ k < 2 ^ 63 ∧ xs.length * k.toNat ≤ 16777216) ∧ Q (.lst (List.replicate k.toNat xs).flatten) s) := W_mulL
end
end L3
namespace PD
open PySem L3 LD PC
variable {Fq : List MO → Prop}
section
variable {mu : List MO} {n k : Nat} {Q : PV → List MO → Prop}
theorem w_next {m : Int} (h : SrcR Fq mu n k) (hk : k + 1 ≤ 2 ^ 49) (hm : 0 < m) (hb : ib m ≤ 9000) (i : ∀ r mu', 0 ≤ r → r < m → SrcR Fq mu' n (k + 1) → Q (.int r) mu') : W (F_w_next [.ptr n, .int m] mu) Q :=
  let ⟨r, mu', e, h1, h2, h3⟩ := next_ok h hk hm hb
  W.of e (i r mu' h1 h2 h3)
theorem zd_low {t b : Int} (h1 : 1 ≤ b) (h2 : b ≤ 6) (h3 : -30 ≤ t) (h4 : t ≤ 30) : Zd 60 30 (Rat.divInt t b) := by
  refine Zd.divInt (by omega) ?_ ?_
  · have : b = 1 ∨ b = 2 ∨ b = 3 ∨ b = 4 ∨ b = 5 ∨ b = 6 := by omega
    rcases this with h | h | h | h | h | h <;> subst h <;> decide
  · omega
theorem w_drawn (h : SrcR Fq mu n k) (hk : k + 3 ≤ 2 ^ 49) (i : ∀ q mu', Zd 60 30 q → SrcR Fq mu' n (k + 3) → Q (fr q) mu') : W (F_w_drawn [.ptr n] mu) Q := by
  unfold F_w_drawn d_w_drawn
  simp [W_runBody]
  refine w_next h (by omega) (by decide) (by decide) fun r1 m1 a1 a2 h1 => ?_
  simp
  split
  · refine w_next h1 (by omega) (by decide) (by decide) fun r2 m2 b1 b2 h2 => ?_
    simp
    exact i ((r2 - 3 : Int) : Rat) _ ((Zd.int (B := 30) (by omega)).mono (by decide) (by decide)) (h2.le (by omega))
  · refine w_next h1 (by omega) (by decide) (by decide) fun r2 m2 b1 b2 h2 => ?_
    have fin : ∀ r3 m3, 0 ≤ r3 → r3 < 6 → SrcR Fq m3 n (k + 1 + 1 + 1) → W (F_w_low [.int (r2 - 30), .int (1 + r3)] m3) fun v mu => Q v mu := fun r3 m3 c1 c2 h3 => by
      have hb : ib (1 + r3) ≤ 9000 := by
        have := ib_le (i := 1 + r3) (b := 5) (by omega)
        omega
      exact W.of (e_low _ _ m3 (by omega) hb) (i _ _ (zd_low (by omega) (by omega) (by omega) (by omega)) (h3.le (by omega)))
    simp
    split
    · refine w_next h2 (by omega) (by decide) (by decide) fun r3 m3 c1 c2 h3 => ?_
      simp
      exact fin r3 m3 c1 c2 h3
    · refine w_next h2 (by omega) (by decide) (by decide) fun r3 m3 c1 c2 h3 => ?_
      simp
      exact fin r3 m3 c1 (by omega) h3
theorem w_pick {xs : List PV} (h : SrcR Fq mu n k) (hk : k + 1 ≤ 2 ^ 49) (hne : xs ≠ []) (hl : xs.length ≤ 16777216) (i : ∀ x mu', x ∈ xs → SrcR Fq mu' n (k + 1) → Q x mu') : W (F_w_pick [.ptr n, .lst xs] mu) Q :=
  let ⟨x, mu', e, h1, h2⟩ := pick_ok h hk hne hl
  W.of e (i x mu' h1 h2)
/-- fractions, all with what P says -/
def All (P : Rat → Prop) (qs : List Rat) : Prop := ∀ q ∈ qs, P q
theorem All.snoc {P : Rat → Prop} {qs : List Rat} {q : Rat} (h : All P qs) (hq : P q) : All P (qs ++ [q]) := fun x hx => by
  rcases List.mem_append.mp hx with y | y
  · exact h x y
  · rw [List.mem_singleton.mp y]; exact hq
theorem w_row {m : Nat} (h : SrcR Fq mu n k) (hk : k + 1 + 4 * m ≤ 2 ^ 49) (hm : m ≤ 10000) (i : ∀ qs mu', All (Zd 60 30) qs → qs.length ≤ m → SrcR Fq mu' n (k + 1 + 4 * m) → Q (.lst (qs.map fr)) mu') : W (F_w_row [.ptr n, .int m] mu) Q := by
  unfold F_w_row d_w_row
  simp [W_runBody]
  refine w_next (m := (m : Int) + 1) h (by omega) (by omega) (by
    have := ib_le (i := (m : Int) + 1) (b := 20) (by omega)
    omega) fun r m1 a1 a2 h1 => ?_
  have hr : (-4611686018427387904 : Int) ≤ r ∧ r < 4611686018427387904 := by omega
  simp [hr]
  have hlen : (rangeP 0 r.toNat).length = r.toNat := by simp [rangeP]
  refine W_forL (I := fun xs s => ∃ qs mu k' o, s = ⟨[some (.val (.ptr n)), some (.val (.int m)), some (.own (qs.map fr)), o], mu⟩ ∧ SrcR Fq mu n k' ∧ k' + 4 * xs.length ≤ k + 1 + 4 * m ∧ qs.length + xs.length ≤ m ∧ All (Zd 60 30) qs)
    ⟨[], m1, k + 1, none, rfl, h1, by omega, by simp; omega, fun q hq => by cases hq⟩ ?_ ?_
  · rintro x xs _ ⟨qs, mu, k', o, rfl, hS, hk', hl, hz⟩
    simp only [List.length_cons] at hk' hl
    have hq : qs.length < 16777216 := by omega
    have done : ∀ q mu', Zd 60 30 q → SrcR Fq mu' n (k' + 4) → flatP (fr q) = true ∧ flatMs mu' = true ∧ qs.length < 16777216 ∧ ∃ qs' mu k' o', (⟨[some (.val (.ptr n)), some (.val (.int m)), some (.own (qs.map fr ++ [fr q])), some (.val x)], mu'⟩ : S) = ⟨[some (.val (.ptr n)), some (.val (.int m)), some (.own (qs'.map fr)), o'], mu⟩ ∧ SrcR Fq mu n k' ∧ k' + 4 * xs.length ≤ k + 1 + 4 * m ∧ qs'.length + xs.length ≤ m ∧ All (Zd 60 30) qs' :=
      fun q mu' hq' hS' => ⟨flat_fr q, hS'.flat, hq, qs ++ [q], mu', k' + 4, some (.val x), by simp, hS', by omega, by simp; omega, hz.snoc hq'⟩
    simp [froz1, own_row]
    by_cases e : qs = []
    · subst e
      simp [okD, okDL, eqP, eqPL]
      refine w_drawn hS (by omega) fun q mu' hq' hS' => ?_
      have := done q mu' hq' (hS'.le (by omega))
      simpa using this
    · have he : eqP (.lst (qs.map fr)) (.lst []) = false := by rw [eqP_frs_nil]; simpa using e
      simp [okD_frs, okD_nil, he]
      refine w_next hS (by omega) (by decide) (by decide) fun r2 m2 b1 b2 h2 => ?_
      simp
      split
      · refine w_pick h2 (by omega) (by simpa using e) (by rw [List.length_map]; omega) fun y m3 hy h3 => ?_
        obtain ⟨q, hq', rfl⟩ := List.mem_map.mp hy
        have := done q m3 (hz q hq') (h3.le (by omega))
        simpa using this
      · refine w_drawn h2 (by omega) fun q m3 hq' h3 => ?_
        have := done q m3 hq' (h3.le (by omega))
        simpa using this
  · rintro _ ⟨qs, mu, k', o, rfl, hS, hk', hl, hz⟩
    simp [froz1]
    exact i qs mu hz (by simpa using hl) (hS.le (by simp at hk'; omega))
theorem w_source {ns : List Int} {j : Nat} {mu : List MO} {Q : PV → List MO → Prop} (hk : j ≤ 2 ^ 40) (hf : flatMs mu = true) (i : ∀ mu', Src mu' mu.length (3 * j) → Q (.ptr mu.length) mu') : W (F_w_source [.frz (ns.map .int), .int j] mu) Q :=
  let ⟨mu', e, h⟩ := source_ok ns j mu hk hf
  W.of e (i mu' h)
theorem z_given {D B : Nat} {qs : List Rat} (s : Sm D B) (hz : All (Zd D B) qs) (hl : qs.length ≤ 10000) (mu : List MO) : F_w_given [.lst (qs.map fr)] mu = .ok (.lst (qs.map gv)) mu := e_given qs (fun q hq => (hz q hq).sm s) (by omega) hl mu
end
end PD
set_option maxHeartbeats 1000000
namespace PD
open PySem L3 LD PC
variable {Fq : List MO → Prop}
theorem eqP_fr (x y : Rat) : eqP (fr x) (fr y) = decide (x = y) := by
  rw [rat_eq]
  simp [fr, eqP, eqPL]
theorem W_ne_fr {F : DF} {x y : Rat} {s : S} {Q : PV → S → Prop} : W (gNeR F (gEq true) (fr x) (fr y) s) Q = Q (.bl (!decide (x = y))) s := by
  have h : gNeR F (gEq true) (fr x) (fr y) s = .ok (.bl (!decide (x = y))) s := by
    show gEq true (fr x) (fr y) s = _
    unfold gEq
    rw [if_pos ⟨okD_fr x, okD_fr y⟩, eqP_fr, Bool.true_xor]
  rw [h, W_ok]
@[simp ↓] theorem I_ne_fr {F : DF} {x y : Rat} {s : S} {Q : PV → S → Prop} : WI (gNeR F (gEq true) (fr x) (fr y) s) (K := ⟨Q⟩) = Q (.bl (!decide (x = y))) s := W_ne_fr
theorem W_gne_fr {x y : Rat} {s : S} {Q : PV → S → Prop} : W (gEq true (fr x) (fr y) s) Q = Q (.bl (!decide (x = y))) s := by
  unfold gEq
  rw [if_pos ⟨okD_fr x, okD_fr y⟩, eqP_fr, Bool.true_xor, W_ok]
@[simp ↓] theorem I_gne_fr {x y : Rat} {s : S} {Q : PV → S → Prop} : WI (gEq true (fr x) (fr y) s) (K := ⟨Q⟩) = Q (.bl (!decide (x = y))) s := W_gne_fr
theorem foldl_sum : ∀ (qs : List Rat) (a : Rat), qs.foldl (· + ·) a = a + sumQ qs
  | [], a => by simp [sumQ, Rat.add_zero]
  | q :: qs, a => by
    rw [List.foldl_cons, foldl_sum qs (a + q)]
    unfold sumQ
    rw [List.foldl_cons, foldl_sum qs (0 + q), Rat.zero_add, Rat.add_assoc]
    rfl
theorem sumQ_cons (q : Rat) (qs : List Rat) : sumQ (q :: qs) = q + sumQ qs := by
  unfold sumQ
  rw [List.foldl_cons, foldl_sum, Rat.zero_add]
  rfl
theorem sumQ_append (a b : List Rat) : sumQ (a ++ b) = sumQ a + sumQ b := by
  unfold sumQ
  rw [List.foldl_append, foldl_sum]
  rfl
end PD
set_option maxHeartbeats 1000000
namespace PD
open PySem L3 LD PC
def leQ (a b : Rat) : Bool := decide (a ≤ b)
abbrev rsort (qs : List Rat) : List Rat := srt leQ qs
end PD
namespace PD
open PySem L3 LD PC
end PD
set_option maxHeartbeats 1000000
set_option maxHeartbeats 1000000
namespace PX
open PySem L3 LD PC PD
structure Cd (D B N : Nat) : Prop where
  d : 0 < D
  b : 1 ≤ B
  n : N ≤ 20
  n1 : 2 ≤ N
  s : Sm (D * 232792560) ((N + 2) * (B + N * B))
section
variable {D B N : Nat} {qs : List Rat} {ps : List PV} {sm : PV}
theorem Cd.s1 (c : Cd D B N) : Sm (D * 232792560) (N * (B + N * B) + (B + N * B)) := c.s.le c.s.pos (Nat.le_refl _) (by
  have h : (N + 2) * (B + N * B) = N * (B + N * B) + 2 * (B + N * B) := by rw [Nat.add_mul]
  omega)
theorem Cd.up (c : Cd D B N) (hz : ∀ q ∈ qs, Zd D B q) : ∀ q ∈ qs, Zd (D * 232792560) B q := fun q hq => (hz q hq).mono (Nat.dvd_mul_right _ _) (Nat.le_refl _)
end
end PX
set_option maxHeartbeats 1000000
namespace PX
open PySem L3 LD PC PD
theorem W_ne_nil {F : DF} {qs : List Rat} {s : S} {Q : PV → S → Prop} : W (gNeR F (gEq true) (.lst (qs.map fr)) (.lst []) s) Q = Q (.bl (!qs.isEmpty)) s := by
  have h : gNeR F (gEq true) (.lst (qs.map fr)) (.lst []) s = .ok (.bl (!qs.isEmpty)) s := by
    show gEq true (.lst (qs.map fr)) (.lst []) s = _
    unfold gEq
    rw [if_pos ⟨okD_frs qs, okD_nil⟩, show eqP (.lst (qs.map fr)) (.lst []) = eqPL (qs.map fr) [] from by simp [eqP], eqPL_nil, Bool.true_xor, List.isEmpty_map]
  rw [h, W_ok]
@[simp ↓] theorem I_ne_nil {F : DF} {qs : List Rat} {s : S} {Q : PV → S → Prop} : WI (gNeR F (gEq true) (.lst (qs.map fr)) (.lst []) s) (K := ⟨Q⟩) = Q (.bl (!qs.isEmpty)) s := W_ne_nil
theorem W_gne_nil {qs : List Rat} {s : S} {Q : PV → S → Prop} : W (gEq true (.lst (qs.map fr)) (.lst []) s) Q = Q (.bl (!qs.isEmpty)) s := by
  unfold gEq
  rw [if_pos ⟨okD_frs qs, okD_nil⟩, show eqP (.lst (qs.map fr)) (.lst []) = eqPL (qs.map fr) [] from by simp [eqP], eqPL_nil, Bool.true_xor, List.isEmpty_map, W_ok]
@[simp ↓] theorem I_gne_nil {qs : List Rat} {s : S} {Q : PV → S → Prop} : WI (gEq true (.lst (qs.map fr)) (.lst []) s) (K := ⟨Q⟩) = Q (.bl (!qs.isEmpty)) s := W_gne_nil
end PX
set_option maxHeartbeats 1000000
namespace PX
open PySem L3 LD PC PD
theorem e_add {x y : Rat} {p : PV} {a b : Nat} (h1 : Zb x a) (h2 : Zb y b) (hp : Is y p) (hab : a + b ≤ 8000) (mu : List MO) : F_Ratio___add__ [.rat x, p] mu = .ok (.rat (x + y)) mu := by
  have h9 : okR (x.num * y.den + y.num * x.den) ((x.den : Int) * y.den) = true := by
    have := ib_mul (i := (x.den : Int)) (j := (y.den : Int)) (a := a) (b := b) (by rw [Int.natAbs_natCast]; exact h1.2) (by rw [Int.natAbs_natCast]; exact h2.2)
    exact (decide_eq_true (by omega))
  have c1 : ib x.num + ib (y.den : Int) ≤ 1000000 := by have := h1.ib_num; have := h2.ib_den; omega
  have c2 : ib y.num + ib (x.den : Int) ≤ 1000000 := by have := h2.ib_num; have := h1.ib_den; omega
  have c3 : ib (x.den : Int) + ib (y.den : Int) ≤ 1000000 := by have := h2.ib_den; have := h1.ib_den; omega
  have e2 := e_ratio_of hp mu
  have hx : ¬ x.den = 0 := x.den_nz
  have hy : ¬ y.den = 0 := y.den_nz
  rw [← add_divInt]
  simp [F_Ratio___add__, runBody, d_Ratio___add__, e2, c1, c2, c3, h9, hx, hy]
theorem W_ne_self {p : PV} {s : S} {Q : PV → S → Prop} (h : okD 8 p = true) : W (gEq true p p s) Q = Q (.bl false) s := by
  unfold gEq
  rw [if_pos ⟨h, h⟩, eqP_self 8 p h, W_ok]
  rfl
@[simp ↓] theorem I_ne_self {p : PV} {s : S} {Q : PV → S → Prop} (h : okD 8 p = true) : WI (gEq true p p s) (K := ⟨Q⟩) = Q (.bl false) s := W_ne_self h
theorem W_ix0 {q : Rat} {s : S} {Q : PV → S → Prop} : W (fIx (fr q) (.int 0) s) Q = Q (.int q.num) s := by
  rw [show fIx (fr q) (.int 0) s = .ok (.int q.num) s from rfl, W_ok]
@[simp ↓] theorem I_ix0 {q : Rat} {s : S} {Q : PV → S → Prop} : WI (fIx (fr q) (.int 0) s) (K := ⟨Q⟩) = Q (.int q.num) s := W_ix0
theorem W_ix1 {q : Rat} {s : S} {Q : PV → S → Prop} : W (fIx (fr q) (.int 1) s) Q = Q (.int q.den) s := by
  rw [show fIx (fr q) (.int 1) s = .ok (.int q.den) s from rfl, W_ok]
@[simp ↓] theorem I_ix1 {q : Rat} {s : S} {Q : PV → S → Prop} : WI (fIx (fr q) (.int 1) s) (K := ⟨Q⟩) = Q (.int q.den) s := W_ix1
end PX
set_option maxHeartbeats 1000000
namespace PX
open PySem L3 LD PC PD
def lo (qs : List Rat) : Rat := (rsort qs).getD ((qs.length - 1) / 2) 0
def hi (qs : List Rat) : Rat := (rsort qs).getD (qs.length / 2) 0
end PX
set_option maxHeartbeats 1000000
set_option maxHeartbeats 1000000
set_option maxHeartbeats 1000000
set_option maxHeartbeats 1000000
set_option maxHeartbeats 1000000
namespace PX
open PySem L3 LD PC PD
section
variable {D B : Nat} {qs : List Rat} {ps : List PV} {sm : PV}
theorem ratsP_map : ∀ f : List Rat, ratsP (f.map .rat) = some f
  | [] => rfl
  | q :: f => by
    show (ratsP (f.map .rat)).map (q :: ·) = _
    rw [ratsP_map f]; rfl
end
end PX
set_option maxHeartbeats 1000000
namespace PX
open PySem L3 LD PC PD
theorem W_eq_str {neg : Bool} {a b : Str} {s : S} {Q : PV → S → Prop} : W (gEq neg (.str a) (.str b) s) Q = Q (.bl (xor neg (a == b))) s := by
  rw [gEq_str, W_ok]
@[simp ↓] theorem I_eq_str {neg : Bool} {a b : Str} {s : S} {Q : PV → S → Prop} : WI (gEq neg (.str a) (.str b) s) (K := ⟨Q⟩) = Q (.bl (xor neg (a == b))) s := W_eq_str
end PX
set_option maxHeartbeats 1000000
namespace PX
open PySem L3 LD PC PD
theorem zipP_map {f g : Rat → PV} (qs ws : List Rat) : zipP (qs.map f) (ws.map g) = (qs.zip ws).map fun p => .tup [f p.1, g p.2] := by
  unfold zipP
  rw [List.zip_map, List.map_map]
  rfl
end PX
set_option maxHeartbeats 1000000
set_option maxHeartbeats 1000000
set_option maxHeartbeats 1000000
set_option maxHeartbeats 1000000
namespace PX
open PySem L3 LD PC PD
/-- a given number as the law keeps it -/
def kp (q : Rat) : PV := if 1 < q.den then fr q else .int q.num
end PX
set_option maxHeartbeats 1000000
set_option maxHeartbeats 1000000
set_option maxHeartbeats 1000000
set_option maxHeartbeats 1000000
set_option maxHeartbeats 1000000
set_option maxHeartbeats 1000000
set_option maxHeartbeats 1000000
set_option maxHeartbeats 1000000
set_option maxHeartbeats 1000000
set_option maxHeartbeats 1000000
set_option maxHeartbeats 1000000
set_option maxHeartbeats 1000000
set_option maxHeartbeats 1000000
set_option maxHeartbeats 1000000
set_option maxHeartbeats 1000000
set_option maxHeartbeats 1000000
set_option maxHeartbeats 1000000
set_option maxHeartbeats 1000000
set_option maxHeartbeats 1000000
set_option maxHeartbeats 1000000
set_option maxHeartbeats 1000000
set_option maxHeartbeats 1000000
set_option maxHeartbeats 1000000
namespace PX
open PySem L3 LD PC PD
abbrev PQ := Rat × Rat
def vals (Z : List PQ) : List Rat := (Z.filter fun p => decide (0 < p.2)).map (·.1)
def pos (Z : List PQ) : List PQ := Z.filter fun p => decide (0 < p.2)
end PX
set_option maxHeartbeats 1000000
namespace PX
open PySem L3 LD PC PD
def top (L : Nat) (q : Rat) : Int := q.num * ((L : Int) / (q.den : Int))
end PX
set_option maxHeartbeats 1000000
set_option maxHeartbeats 1000000
set_option maxHeartbeats 1000000
namespace PD
open PySem L3
section
variable {i : Nat} {da dx : DE} {s : S} {P : Fl → S → Prop}
theorem D_dPut : WD (dPut i da dx s) P = WD (da s) (fun v s1 => (lstAt i s1).isSome = true ∧ WD (dx s1) (fun j s2 => match j, lstAt i s2 with
    | .int j, some (xs, k) => (match L2.ixN xs.length j with | some m => P .nx (k (xs.set m v)) | none => False)
    | _, _ => False)) := by
  show WD ((da s).bind _) P = _
  rw [D_bind]
  congr 1
  funext v s1
  cases e : lstAt i s1 with
  | none => simp
  | some z =>
    simp only [Option.isSome_some, true_and]
    show WD ((dx s1).bind _) P = _
    rw [D_bind]
    congr 1
    funext j s2
    cases j with
    | int j =>
      cases e2 : lstAt i s2 with
      | none => simp
      | some y =>
        obtain ⟨xs, k⟩ := y
        simp only
        cases e3 : L2.ixN xs.length j with
        | none => simp
        | some m => simp
    | _ => simp
theorem W_dPut : W (dPut i da dx s) P = W (da s) (fun v s1 => (lstAt i s1).isSome = true ∧ W (dx s1) (fun j s2 => match j, lstAt i s2 with
    | .int j, some (xs, k) => (match L2.ixN xs.length j with | some m => P .nx (k (xs.set m v)) | none => False)
    | _, _ => False)) := by
  simp only [W, WI_iff]
  exact D_dPut
@[simp ↓] theorem I_dPut : WI (dPut i da dx s) (K := ⟨P⟩) = WI (da s) (K := ⟨(fun v s1 => (lstAt i s1).isSome = true ∧ WI (dx s1) (K := ⟨(fun j s2 => match j, lstAt i s2 with
    | .int j, some (xs, k) => (match L2.ixN xs.length j with | some m => P .nx (k (xs.set m v)) | none => False)
    | _, _ => False)⟩))⟩) := W_dPut
variable {dr : DA} {B : List PV → S → Prop}
theorem D_dListUp : WD (dListUp dr s) B = WD (dr s) (fun vs s1 => match vs with | [.int j] => UpOk j ∧ B (rangeP 0 j.toNat) s1 | _ => False) := by
  show WD ((dr s).bind _) B = _
  rw [D_bind]
  congr 1
  funext vs s1
  split
  · rename_i j
    by_cases h : UpOk j
    · rw [if_pos h]; simp [h]
    · rw [if_neg h]; simp [h]
  · rename_i h
    simp
theorem W_dListUp : W (dListUp dr s) B = W (dr s) (fun vs s1 => match vs with | [.int j] => UpOk j ∧ B (rangeP 0 j.toNat) s1 | _ => False) := by
  simp only [W, WI_iff]
  exact D_dListUp
@[simp ↓] theorem I_dListUp : WI (dListUp dr s) (K := ⟨B⟩) = WI (dr s) (K := ⟨(fun vs s1 => match vs with | [.int j] => UpOk j ∧ B (rangeP 0 j.toNat) s1 | _ => False)⟩) := W_dListUp
end
end PD
set_option maxHeartbeats 1000000
set_option maxHeartbeats 1000000
set_option maxHeartbeats 1000000
set_option maxHeartbeats 1000000
set_option maxHeartbeats 1000000
set_option maxHeartbeats 1000000
set_option maxHeartbeats 1000000
set_option maxHeartbeats 1000000
set_option maxHeartbeats 1000000
set_option maxHeartbeats 1000000
namespace PX
open PySem L3 LD PC PD
abbrev P2 := Rat × Rat
inductive PP : List P2 → List PV → Prop where
  | nil : PP [] []
  | cons {p : P2} {ps : List P2} {a b : PV} {ts : List PV} : Is p.1 a → Is p.2 b → PP ps ts → PP (p :: ps) (.tup [a, b] :: ts)
theorem PP.len {ps : List P2} {ts : List PV} (h : PP ps ts) : ts.length = ps.length := by
  induction h with
  | nil => rfl
  | cons _ _ _ ih => simp [ih]
theorem PP.mem {ps : List P2} {ts : List PV} (h : PP ps ts) : ∀ t ∈ ts, ∃ p a b, t = .tup [a, b] ∧ Is (p : P2).1 a ∧ Is p.2 b := by
  induction h with
  | nil => intro t ht; cases ht
  | cons h1 h2 _ ih =>
    intro t ht
    rcases List.mem_cons.mp ht with e | e
    · exact ⟨_, _, _, e, h1, h2⟩
    · exact ih t e
end PX
set_option maxHeartbeats 1000000
namespace PX
open PySem L3 LD PC PD
/-- sizes for sums of pairs -/
structure Ps (D B : Nat) (ps : List P2) : Prop where
  s1 : Sm D B
  s2 : Sm (D * D) (B * B)
  z : ∀ p ∈ ps, Zd D B p.1 ∧ Zd D B p.2
  len : ps.length ≤ 1000
  lo : B * D ≤ 2 ^ 400
  lo2 : D ≤ 2 ^ 400
section
variable {D B : Nat} {ps : List P2}
theorem Ps.zb (P : Ps D B ps) : ∀ p ∈ ps, Zb p.1 400 ∧ Zb p.2 400 := fun p hp => ⟨(P.z p hp).1.zb P.s1.pos P.lo P.lo2, (P.z p hp).2.zb P.s1.pos P.lo P.lo2⟩
end
end PX
set_option maxHeartbeats 1000000
namespace PX
open PySem L3 LD PC PD
section
variable {D B : Nat} {ps : List P2}
theorem big1 {n a : Nat} (h : a ≤ 2 ^ 400) (hn : n ≤ 1000) : n * a ≤ 2 ^ 410 := by
  have : n * a ≤ 1000 * 2 ^ 400 := Nat.mul_le_mul hn h
  exact Nat.le_trans this (by decide +kernel)
theorem Ps.one (P : Ps D B ps) {qs : List Rat} (hz : ∀ q ∈ qs, Zd D B q) (hn : qs.length ≤ 1000) : Zb (sumQ qs) 410 := (Zd.sumz P.s1.pos hz).zb P.s1.pos (by rw [Nat.mul_assoc]; exact big1 P.lo hn) (Nat.le_trans P.lo2 (Nat.pow_le_pow_right (by decide) (by decide)))
end
end PX
set_option maxHeartbeats 1000000
namespace PX
open PySem L3 LD PC PD
theorem comp_eq {α : Type} {tg : DG} {te : DE} {vs : List Nat} {s : S} (l : List α) (g f : α → PV) (hl : l.length ≤ 16777216) (h : ∀ a ∈ l, W (tg (g a) s) fun _ s1 => W (te s1) fun y s3 => y = f a ∧ wipeS vs s3 = s) : compL tg dYes te vs (l.map g) [] s = .ok (l.map f) s := by
  obtain ⟨v, t, e, rfl, rfl⟩ := (W_compMap (B := fun ys t => ys = l.map f ∧ t = s) l g f hl h ⟨rfl, rfl⟩).out
  exact e
def gq (p : P2) : PV := .tup [gv p.1, gv p.2]
end PX
set_option maxHeartbeats 1000000
namespace PX
open PySem L3 LD PC PD
variable {Fq : List MO → Prop}
def noOwn : Option SV → Prop
  | some (.own _) => False
  | _ => True
theorem turnsN {ns : List Int} {b : DS} {m : Int} (h4 : m ≤ 4) (Rr : List (Option SV) → Prop) {o1 : Option SV} {rest : List (Option SV)} {mu : List MO} (h0 : Rr rest) (hf : flatMs mu = true) {P : Fl → S → Prop}
    (hb : ∀ (i : Nat) (rest : List (Option SV)) (mu : List MO), i ≤ 4 → Rr rest → flatMs mu = true → W (b ⟨some (.val (.frz (ns.map .int))) :: some (.val (.int (i : Int))) :: rest, mu⟩) fun f s' => f = .nx ∧ ∃ rest' mu', Rr rest' ∧ flatMs mu' = true ∧ s' = ⟨some (.val (.frz (ns.map .int))) :: some (.val (.int (i : Int))) :: rest', mu'⟩)
    (h1 : noOwn o1) (hP : ∀ o1 rest mu, noOwn o1 → Rr rest → flatMs mu = true → P .nx ⟨some (.val (.frz (ns.map .int))) :: o1 :: rest, mu⟩) :
    W (forL (gN 1) b (rangeP 0 m.toNat) ⟨some (.val (.frz (ns.map .int))) :: o1 :: rest, mu⟩) P := by
  refine W_forL (I := fun xs s => ∃ (is : List Nat) (o1 : Option SV) (rest : List (Option SV)) (mu : List MO), xs = is.map (fun i : Nat => PV.int (i : Int)) ∧ (∀ i ∈ is, i ≤ 4) ∧ noOwn o1 ∧ Rr rest ∧ flatMs mu = true ∧ s = ⟨some (.val (.frz (ns.map .int))) :: o1 :: rest, mu⟩) ?_ ?_ ?_
  · refine ⟨List.range m.toNat, o1, rest, mu, ?_, fun i hi => by have := List.mem_range.mp hi; omega, h1, h0, hf, rfl⟩
    unfold rangeP
    refine List.map_congr_left fun k _ => ?_
    rw [Int.zero_add]
  · intro x xs s hI
    obtain ⟨is, o1, rest, mu, e, hi, hn1, hr, hf, hs⟩ := hI
    subst hs
    cases is with
    | nil => cases e
    | cons i is =>
      cases e
      refine (hb i rest mu (hi i List.mem_cons_self) hr hf).mono fun f s' h => ?_
      obtain ⟨hf1, rest', mu', hr', hf', hs'⟩ := h
      subst hf1 hs'
      exact ⟨is, some (.val (.int (i : Int))), rest', mu', rfl, fun j hj => hi j (List.mem_cons_of_mem _ hj), trivial, hr', hf', rfl⟩
  · intro s hI
    obtain ⟨is, o1, rest, mu, e, hi, hn1, hr, hf, hs⟩ := hI
    subst hs
    exact hP o1 rest mu hn1 hr hf
end PX
set_option maxHeartbeats 1000000
set_option maxHeartbeats 1000000
set_option maxHeartbeats 1000000
set_option maxHeartbeats 1000000
namespace PX
open PySem L3 LD PC PD
@[local simp] theorem ne_sh : (PySem.Str.ofString "own_slope" = PySem.Str.ofString "own_height") = False := eq_false (by decide +kernel)
theorem get_last {mu : List MO} {x : MO} : (mu ++ [x])[mu.length]? = some x := by simp
theorem Zb.sub {x y : Rat} {a b : Nat} (h1 : Zb x a) (h2 : Zb y b) : Zb (x - y) (a + b + 1) := by
  have h3 : Zb (-y) b := ⟨by rw [Rat.neg_num, Int.natAbs_neg]; exact h2.1, by rw [Rat.neg_den]; exact h2.2⟩
  have h4 := h1.add h3
  rw [← Rat.sub_eq_add_neg] at h4
  exact h4
end PX
set_option maxHeartbeats 1000000
namespace PX
open PySem L3 LD PC PD
def smo (qs : List Rat) (k : Nat) : Rat := sumQ (qs.map (· ^ k))
def sms (o : Nat) (qs : List Rat) : List Rat := (List.range o).map fun j => smo qs (j + 1)
theorem smo_append (a b : List Rat) (k : Nat) : smo (a ++ b) k = smo a k + smo b k := by
  unfold smo; rw [List.map_append, sumQ_append]
theorem smo_cons (q : Rat) (qs : List Rat) (k : Nat) : smo (q :: qs) k = q ^ k + smo qs k := by
  unfold smo; rw [List.map_cons, sumQ_cons]
theorem sms_len (o : Nat) (qs : List Rat) : (sms o qs).length = o := by unfold sms; simp
theorem sms_append (o : Nat) (a b : List Rat) : sms o (a ++ b) = List.zipWith (· + ·) (sms o a) (sms o b) := by
  unfold sms
  rw [List.zipWith_map, List.zipWith_self]
  exact List.map_congr_left fun j _ => smo_append a b (j + 1)
theorem divInt_pow (t L : Int) (h : L ≠ 0) : ∀ k : Nat, Rat.divInt t L ^ k = Rat.divInt (t ^ k) (L ^ k)
  | 0 => by rw [Rat.pow_zero, Int.pow_zero, Int.pow_zero]; rfl
  | k + 1 => by
    rw [Rat.pow_succ, divInt_pow t L h k, Rat.divInt_mul_divInt, Int.pow_succ, Int.pow_succ]
theorem one_over {L : Nat} (h0 : 0 < L) {q : Rat} (h : q.den ∣ L) : Rat.divInt (q.num * ((L : Int) / (q.den : Int))) L = q := by
  have z := tops_sum h0 [q] 0 (fun x hx => by rw [List.mem_singleton.mp hx]; exact h)
  simpa [tops, Rat.zero_add] using z
theorem pw_sum {L : Nat} (h0 : 0 < L) (k : Nat) : ∀ (qs : List Rat), (∀ q ∈ qs, q.den ∣ L) → Rat.divInt ((tops L qs).map (· ^ k)).sum ((L : Int) ^ k) = smo qs k
  | [], _ => by simp [tops, smo, sumQ]
  | q :: qs, h => by
    have hL : ((L : Int) ^ k) ≠ 0 := Int.pow_ne_zero (by omega)
    have ih := pw_sum h0 k qs fun x hx => h x (List.mem_cons_of_mem _ hx)
    have h1 := one_over h0 (h q List.mem_cons_self)
    rw [smo_cons, ← ih, ← h1, divInt_pow _ _ (by omega)]
    unfold tops
    rw [List.map_cons, List.map_cons, List.sum_cons, h1, Rat.divInt_add_divInt _ _ hL hL, Rat.divInt_eq_divInt_iff hL (Int.mul_ne_zero hL hL), ← Int.add_mul, Int.mul_assoc]
theorem tops_le {D B L : Nat} (hL : L ∣ D) (h0 : 0 < D) {qs : List Rat} (hz : ∀ q ∈ qs, Zd D B q) (hd : ∀ q ∈ qs, q.den ∣ L) : ∀ t ∈ tops L qs, t.natAbs ≤ B * D := fun t ht => by
  unfold tops at ht
  obtain ⟨q, hq, rfl⟩ := List.mem_map.mp ht
  obtain ⟨c, hc⟩ := hd q hq
  have hq0 : 0 < q.den := q.den_pos
  have e : ((L : Int) / (q.den : Int)) = (c : Int) := by
    rw [hc, Int.natCast_mul, Int.mul_ediv_cancel_left _ (by omega)]
  rw [e, Int.natAbs_mul, Int.natAbs_natCast]
  have h1 := (hz q hq).le
  have h2 : L ≤ D := Nat.le_of_dvd h0 hL
  calc q.num.natAbs * c ≤ (B * q.den) * c := Nat.mul_le_mul_right _ h1
    _ = B * L := by rw [hc, Nat.mul_assoc]
    _ ≤ B * D := Nat.mul_le_mul_left _ h2
theorem zip_two {α : Type} (f g : α → PV) : ∀ l : List α, zipP (l.map f) (l.map g) = l.map fun t => .tup [f t, g t]
  | [] => rfl
  | t :: l => by
    show PV.tup [f t, g t] :: zipP (l.map f) (l.map g) = _
    rw [zip_two f g l] <;> rfl
theorem pow_le2 {t : Int} {b k : Nat} (h : t.natAbs ≤ 2 ^ b) : (t ^ k).natAbs ≤ 2 ^ (b * k) := by
  rw [Int.natAbs_pow, Nat.pow_mul]
  exact Nat.pow_le_pow_left h k
theorem e_power_sums {D B o : Nat} {qs : List Rat} (s : Sm D B) (hD : D ≤ 2 ^ 1000) (hz : ∀ q ∈ qs, Zd D B q) (hn : qs.length ≤ 10000) (ho : o ≤ 8) (mu : List MO) :
    F_power_sums [.lst (qs.map .rat), .int (o : Int)] mu = .ok (.tup ((sms o qs).map .rat)) mu := by
  obtain ⟨e1, h0, h1, h2⟩ := z_common s hz hn mu
  generalize hL : lcmD qs = L at *
  have hLD : L ≤ D := Nat.le_of_dvd s.pos h1
  have hLb : L ≤ 2 ^ 1000 := Nat.le_trans hLD hD
  have ht : ∀ t ∈ tops L qs, t.natAbs ≤ 2 ^ 3990 := fun t ht => Nat.le_trans (tops_le h1 s.pos hz h2 t ht) s.top
  have hlen : (tops L qs).length = qs.length := by unfold tops; simp
  have hLk : ∀ k : Nat, ((L : Int) ^ k).natAbs ≤ 2 ^ (1000 * k) := fun k => pow_le2 (by rw [Int.natAbs_natCast]; exact hLb)
  have h : W (F_power_sums [.lst (qs.map .rat), .int (o : Int)] mu) fun v mu' => v = .tup ((sms o qs).map .rat) ∧ mu' = mu := by
    unfold F_power_sums d_power_sums
    have ho63 : (-4611686018427387904 : Int) ≤ (o : Int) ∧ (o : Int) < 4611686018427387904 := by omega
    simp [W_runBody, e1, ho63]
    refine W_forL (I := fun xs s => ∃ (j : Nat) (o2 : Option SV), j + xs.length = o ∧ s = ⟨[some (.val (.lst (qs.map .rat))), some (.val (.int (o : Int))), o2, some (.val (.lst ((tops L qs).map .int))), some (.val (.int (L : Int))), some (.val (.lst (((tops L qs).map (· ^ (j + 1))).map .int))), some (.val (.int ((L : Int) ^ (j + 1)))), some (.own ((sms j qs).map .rat)), none, none], mu⟩)
      ⟨0, none, by simp [rangeP], by simp [sms, Int.pow_succ]⟩ ?_ ?_
    · rintro x xs _ ⟨j, o2, hj, rfl⟩
      simp only [List.length_cons] at hj
      have hb0 : ((L : Int) ^ (j + 1)) ≠ 0 := Int.pow_ne_zero (by omega)
      have hk : okR (((tops L qs).map (· ^ (j + 1))).sum) ((L : Int) ^ (j + 1)) = true := by
        have q1 := ib_le (hLk (j + 1))
        have q2 : 1000 * (j + 1) ≤ 8000 := by omega
        exact decide_eq_true (by omega)
      have es := pw_sum h0 (j + 1) qs h2
      have hm : ib ((L : Int) ^ (j + 1)) + ib (L : Int) ≤ 1000000 := by
        have q1 := ib_le (hLk (j + 1))
        have q2 := ib_le (i := (L : Int)) (b := 1000) (by rw [Int.natAbs_natCast]; exact hLb)
        omega
      have ec := fun (env : List (Option SV)) (he : env = [some (.val (.lst (qs.map .rat))), some (.val (.int (o : Int))), some (.val x), some (.val (.lst ((tops L qs).map .int))), some (.val (.int (L : Int))), some (.val (.lst (((tops L qs).map (· ^ (j + 1))).map .int))), some (.val (.int ((L : Int) ^ (j + 1)))), some (.own ((sms j qs).map .rat ++ [.rat (smo qs (j + 1))])), none, none]) =>
        comp_eq (tg := gT 2 (gCons (gN 8) (gCons (gN 9) gNil))) (te := dBin gMul (dVar 8) (dVar 9)) (vs := [8, 9]) (s := ⟨env, mu⟩) (tops L qs) (fun t => .tup [.int (t ^ (j + 1)), .int t]) (fun t => .int (t ^ (j + 1) * t)) (by rw [hlen]; omega) (fun a ha => by
          subst he
          have q1 := ib_le (pow_le2 (k := j + 1) (ht a ha))
          have q2 := ib_le (ht a ha)
          have q3 : 3990 * (j + 1) ≤ 3990 * 8 := Nat.mul_le_mul_left _ (by omega)
          have q4 : ib (a ^ (j + 1)) + ib a ≤ 1000000 := by omega
          simp [q4, wipeE])
      have ec := ec _ rfl
      have hl2 : (sms j qs).length < 16777216 := by rw [sms_len]; omega
      have hb1 : ¬ ((L : Int) ^ (j + 1) = 0) := hb0
      have esum : ∀ st, fSumI [.lst (((tops L qs).map (· ^ (j + 1))).map PV.int)] st = .ok (.int (((tops L qs).map (· ^ (j + 1))).sum)) st := fun st => by
        show (match intsP (List.map PV.int (List.map (fun x => x ^ (j + 1)) (tops L qs))) with | some is => R.ok (PV.int is.sum) st | none => R.bad) = _
        rw [PC.intsP_map]
      have ez : zipP (((tops L qs).map (· ^ (j + 1))).map PV.int) ((tops L qs).map PV.int) = (tops L qs).map fun t => .tup [.int (t ^ (j + 1)), .int t] := by
        rw [List.map_map]
        exact zip_two _ _ _
      unfold b_power_sums_1
      simp [hb1, hk, es, hl2, esum, ez, wipeE, ec, hm, -List.map_map, -fSumI]
      refine ⟨j + 1, by omega, ?_⟩
      simp [sms, List.range_succ, Int.pow_succ, -List.map_map]
      rw [List.map_map]
      rfl
    · rintro _ ⟨j, o2, hj, rfl⟩
      simp only [List.length_nil, Nat.add_zero] at hj
      subst hj
      simp [froz1, ownIn, frozS]
  obtain ⟨v, mu', e, rfl, rfl⟩ := h.out
  exact e
end PX
set_option maxHeartbeats 1000000
namespace PX
open PySem L3 LD PC PD
def moN : List Str := ["own_kind", "own_many", "own_order", "own_sums"]
/-- Moments by size, order, sums -/
def moV (many : Int) (o : Nat) (ss : List Rat) : MO := .nst "Moments" moN [.str "moments", .int many, .int o, .tup (ss.map .rat)]
/-- Moments of numbers -/
def moO (o : Nat) (qs : List Rat) : MO := moV qs.length o (sms o qs)
theorem flat_rats : ∀ qs : List Rat, flatL (qs.map .rat) = true
  | [] => rfl
  | q :: qs => by simp [flatL, flatP, flat_rats qs]
@[simp] theorem flat_moV (many : Int) (o : Nat) (ss : List Rat) : flatM (moV many o ss) = true := by
  simp [moV, flatL, flatP, flat_rats]
@[simp] theorem flat_moO (o : Nat) (qs : List Rat) : flatM (moO o qs) = true := flat_moV _ _ _
section
variable {a b c d v : PV}
@[simp] theorem mo_kind : L3.getV "own_kind" moN [a, b, c, d] = some a := by kernel_rfl
@[simp] theorem mo_many : L3.getV "own_many" moN [a, b, c, d] = some b := by kernel_rfl
@[simp] theorem mo_order : L3.getV "own_order" moN [a, b, c, d] = some c := by kernel_rfl
@[simp] theorem mo_sums : L3.getV "own_sums" moN [a, b, c, d] = some d := by kernel_rfl
@[simp] theorem mo_pmany : L3.putV "own_many" v moN [a, b, c, d] = [a, v, c, d] := by kernel_rfl
@[simp] theorem mo_psums : L3.putV "own_sums" v moN [a, b, c, d] = [a, b, c, v] := by kernel_rfl
@[simp] theorem mo_nmany : L3.putN "own_many" moN = moN := by kernel_rfl
@[simp] theorem mo_nsums : L3.putN "own_sums" moN = moN := by kernel_rfl
@[simp] theorem mo_len : moN.length = 4 := rfl
@[simp] theorem mem_mo : (("Moments" : Str) ∈ ([("Summary" : Str), ("Moments" : Str)] : List Str)) = True := eq_true (by decide +kernel)
def kN1 : List Str := ["own_kind"]
def kN2 : List Str := ["own_kind", "own_many"]
def kN3 : List Str := ["own_kind", "own_many", "own_order"]
@[simp] theorem kp1 : L3.putN "own_kind" [] = kN1 := by kernel_rfl
@[simp] theorem kp2 : L3.putN "own_many" kN1 = kN2 := by kernel_rfl
@[simp] theorem kp3 : L3.putN "own_order" kN2 = kN3 := by kernel_rfl
@[simp] theorem kp4 : L3.putN "own_sums" kN3 = moN := by kernel_rfl
@[simp] theorem kv1 : L3.putV "own_kind" a [] [] = [a] := by kernel_rfl
@[simp] theorem kv2 : L3.putV "own_many" b kN1 [a] = [a, b] := by kernel_rfl
@[simp] theorem kv3 : L3.putV "own_order" c kN2 [a, b] = [a, b, c] := by kernel_rfl
@[simp] theorem kv4 : L3.putV "own_sums" d kN3 [a, b, c] = [a, b, c, d] := by kernel_rfl
@[simp] theorem kl1 : kN1.length = 1 := rfl
@[simp] theorem kl2 : kN2.length = 2 := rfl
@[simp] theorem kl3 : kN3.length = 3 := rfl
end
/-- the values that Moments are made with -/
def MoK (o : Nat) (many : Int) (ss : List Rat) (k : PV) : Prop := (k = .non ∧ many = 0 ∧ ss = List.replicate o 0) ∨ k = .tup [.int many, .tup (ss.map .rat)]
theorem rep_rat : ∀ o : Nat, (List.replicate o [PV.rat 0]).flatten = (List.replicate o (0 : Rat)).map .rat
  | 0 => rfl
  | o + 1 => by rw [List.replicate_succ, List.flatten_cons, rep_rat o, List.replicate_succ, List.map_cons]; rfl
theorem em_rat {i : Int} (h0 : 0 ≤ i) (h : i ≤ 8) (st : L3.S) : gMul (.lst [.rat 0]) (.int i) st = .ok (.lst ((List.replicate i.toNat (0 : Rat)).map .rat)) st := by
  have q : W (gMul (.lst [.rat 0]) (.int i) st) fun v t => v = .lst ((List.replicate i.toNat (0 : Rat)).map .rat) ∧ t = st := by
    rw [W_mulL]
    refine ⟨⟨by omega, by omega, ?_⟩, ?_, rfl⟩
    · show 1 * i.toNat ≤ 16777216
      omega
    · rw [rep_rat]
  obtain ⟨v, t, e, rfl, rfl⟩ := q.out
  exact e
theorem e_sum_init (a b : PV) (mu : List MO) : F_Summary___init__ [.ptr mu.length, a, b] (mu ++ [.nst "Moments" [] []]) = .ok .non (mu ++ [.nst "Moments" kN2 [a, b]]) := by
  simp [F_Summary___init__, runBody, d_Summary___init__]
theorem seq_nx {ds du : DS} {s s1 : L3.S} (h : ds s = .ok .nx s1) : dSeq ds du s = du s1 := by
  unfold dSeq
  rw [h]
  rfl
theorem e_amt {i a b : Int} (h1 : a ≤ i) (h2 : i ≤ b) (mu : List MO) : F_need_amount [.int i, .int a, .int b] mu = .ok .non mu := by
  have a1 : ¬ (i < a) := by omega
  have a2 : ¬ (b < i) := by omega
  simp [F_need_amount, runBody, d_need_amount, a1, a2]
section
variable {mu : List MO} {i many : Int} {o : Nat} {ss : List Rat} {k : PV}
def mi0 (mu : List MO) (i : Int) (k : PV) (m : MO) : L3.S := ⟨[some (.val (.ptr mu.length)), some (.val (.int i)), some (.val k), none], mu ++ [m]⟩
theorem mi_1 (h1 : 2 ≤ i) (h2 : i ≤ 8) (m : MO) : dExpr (dFnS F_need_amount (dCons (dVar 1) (dCons (dC (.int 2)) (dCons (dC (.int 8)) dNil)))) (mi0 mu i k m) = .ok .nx (mi0 mu i k m) := by
  have e := e_amt h1 h2 (mu ++ [m])
  simp [mi0, e]
def dMk : DE := dIf (dTru (dBin (fIsN false) (dVar 2) (dC .non))) (dC (.int 0)) (dBin fIx (dVar 2) (dC (.int 0)))
theorem mi_k (hk : MoK o many ss k) (m : MO) : dMk (mi0 mu i k m) = .ok (.int many) (mi0 mu i k m) := by
  rcases hk with ⟨rfl, rfl, rfl⟩ | rfl <;> simp [mi0, dMk]
theorem mi_2 (hk : MoK o many ss k) : dExpr (dSup ["Moments"] (fMt 3 F_Summary___init__) (dCons (dC (.str ("moments" : Str))) (dCons dMk dNil))) (mi0 mu i k (.nst "Moments" [] [])) = .ok .nx (mi0 mu i k (.nst "Moments" kN2 [.str "moments", .int many])) := by
  have es := e_sum_init (.str "moments") (.int many) mu
  have hm := mi_k (mu := mu) (i := i) hk (.nst "Moments" [] [])
  unfold mi0 at hm ⊢
  simp [hm, es]
theorem mi_3 (xs : List PV) (hx : xs = [.str "moments", .int many]) : dFPutN ["Moments"] "own_order" (dVar 0) (dVar 1) (mi0 mu i k (.nst "Moments" kN2 xs)) = .ok .nx (mi0 mu i k (.nst "Moments" kN3 (xs ++ [.int i]))) := by
  subst hx
  simp [mi0]
def dMs : DE := dIf (dTru (dBin (fIsN false) (dVar 2) (dC .non))) (dFn fTuple (dCons (dBin gMul (dLst (dCons (dFn (fMakeR okR) (dCons (dC (.int 0)) dNil)) dNil)) (dVar 1)) dNil)) (dBin fIx (dVar 2) (dC (.int 1)))
theorem mi_s (h1 : 0 ≤ i) (h2 : i ≤ 8) (ho : i.toNat = o) (hk : MoK o many ss k) (m : MO) : dMs (mi0 mu i k m) = .ok (.tup (ss.map .rat)) (mi0 mu i k m) := by
  have hr : okR 0 1 = true := by decide +kernel
  have hz : Rat.divInt 0 1 = 0 := by simp
  have em := fun st => em_rat h1 h2 st
  rw [ho] at em
  rcases hk with ⟨rfl, rfl, rfl⟩ | rfl
  · simp [mi0, dMs, hr, hz, em, -gMul]
  · simp [mi0, dMs]
theorem mi_4 (h1 : 0 ≤ i) (h2 : i ≤ 8) (ho : i.toNat = o) (hk : MoK o many ss k) : dFPutN ["Moments"] "own_sums" (dVar 0) dMs (mi0 mu i k (.nst "Moments" kN3 [.str "moments", .int many, .int i])) = .ok .nx (mi0 mu i k (.nst "Moments" moN [.str "moments", .int many, .int i, .tup (ss.map .rat)])) := by
  have hs := mi_s (mu := mu) h1 h2 ho hk (.nst "Moments" kN3 [.str "moments", .int many, .int i])
  unfold mi0 at hs ⊢
  simp [hs]
theorem e_mo_initI (h1 : 2 ≤ i) (h2 : i ≤ 8) (ho : i.toNat = o) (hk : MoK o many ss k) : F_Moments___init__ [.ptr mu.length, .int i, k] (mu ++ [.nst "Moments" [] []]) = .ok .non (mu ++ [.nst "Moments" moN [.str "moments", .int many, .int i, .tup (ss.map .rat)]]) := by
  have e : d_Moments___init__ (mi0 mu i k (.nst "Moments" [] [])) = .ok .nx (mi0 mu i k (.nst "Moments" moN [.str "moments", .int many, .int i, .tup (ss.map .rat)])) := by
    unfold d_Moments___init__
    exact (seq_nx (mi_1 h1 h2 _)).trans ((seq_nx (mi_2 hk)).trans ((seq_nx (mi_3 _ rfl)).trans (mi_4 (by omega) h2 ho hk)))
  show (match d_Moments___init__ (mi0 mu i k (.nst "Moments" [] [])) with | .ok (.rt v) s => R.ok v s.mu | .ok .nx s => .ok .non s.mu | .ok _ _ => .bad | .exn e s => .exn e s.mu | .bad => .bad) = _
  rw [e]
  rfl
end
theorem e_mo_init {o : Nat} {many : Int} {ss : List Rat} {k : PV} (h2 : 2 ≤ o) (h8 : o ≤ 8) (hk : MoK o many ss k) (mu : List MO) : F_Moments___init__ [.ptr mu.length, .int (o : Int), k] (mu ++ [.nst "Moments" [] []]) = .ok .non (mu ++ [moV many o ss]) :=
  e_mo_initI (by omega) (by omega) (Int.toNat_natCast o) hk
section
variable {mu : List MO} {n : Nat} {many : Int} {o : Nat} {ss : List Rat}
theorem e_mo_size (h : mu[n]? = some (moV many o ss)) : F_Summary_size [.ptr n] mu = .ok (.int many) mu := by
  simp [F_Summary_size, runBody, d_Summary_size, h, moV, optR]
theorem e_mo_order (h : mu[n]? = some (moV many o ss)) : F_Moments_order [.ptr n] mu = .ok (.int o) mu := by
  simp [F_Moments_order, runBody, d_Moments_order, h, moV, optR]
theorem e_mo_sums (h : mu[n]? = some (moV many o ss)) : F_Moments_sums [.ptr n] mu = .ok (.tup (ss.map .rat)) mu := by
  simp [F_Moments_sums, runBody, d_Moments_sums, h, moV, optR]
end
end PX
set_option maxHeartbeats 1000000
namespace PX
open PySem L3 LD PC PD
/-- sizes: at most N numbers by D, B, powers up to the o-th -/
structure Mz (D B N o : Nat) : Prop where
  b1 : 1 ≤ B
  hD : D ≤ 2 ^ 1000
  sm : Sm D B
  pw : (N * B ^ o) * D ^ o ≤ 2 ^ 1500
  dp : D ^ o ≤ 2 ^ 1500
  o2 : 2 ≤ o
  o8 : o ≤ 8
  n1 : N ≤ 1000
  n0 : 1 ≤ N
section
variable {D B N o : Nat} {qs xs ys : List Rat}
theorem smo_zd (M : Mz D B N o) (hz : ∀ q ∈ qs, Zd D B q) (hn : qs.length ≤ N) {k : Nat} (hk : k ≤ o) : Zd (D ^ o) (N * B ^ o) (smo qs k) := by
  have h := Zd.sumz (D := D ^ o) (B := B ^ o) (qs := qs.map (· ^ k)) (Nat.pow_pos M.sm.pos) fun q hq => by
    obtain ⟨x, hx, rfl⟩ := List.mem_map.mp hq
    exact (hz x hx).powle M.b1 hk
  rw [List.length_map] at h
  exact h.mono (Nat.dvd_refl _) (Nat.mul_le_mul_right _ hn)
theorem smo_zb (M : Mz D B N o) (hz : ∀ q ∈ qs, Zd D B q) (hn : qs.length ≤ N) {k : Nat} (hk : k ≤ o) : Zb (smo qs k) 1500 := (smo_zd M hz hn hk).zb (Nat.pow_pos M.sm.pos) M.pw M.dp
theorem sms_zb (M : Mz D B N o) (hz : ∀ q ∈ qs, Zd D B q) (hn : qs.length ≤ N) : ∀ q ∈ sms o qs, Zb q 1500 := fun q hq => by
  unfold sms at hq
  obtain ⟨j, hj, rfl⟩ := List.mem_map.mp hq
  exact smo_zb M hz hn (by have := List.mem_range.mp hj; omega)
theorem zw_map {f : Rat → Rat → Rat} : ∀ (xs ys : List Rat), (List.zipWith f xs ys).map PV.rat = (xs.zip ys).map fun p => PV.rat (f p.1 p.2)
  | [], _ => by simp
  | _ :: _, [] => by simp
  | x :: xs, y :: ys => by
    rw [List.zipWith_cons_cons, List.zip_cons_cons, List.map_cons, List.map_cons, zw_map xs ys]
theorem mem_zip {p : Rat × Rat} : ∀ {xs ys : List Rat}, p ∈ xs.zip ys → p.1 ∈ xs ∧ p.2 ∈ ys := fun h => List.of_mem_zip h
theorem e_added (hx : ∀ q ∈ xs, Zb q 1500) (hy : ∀ q ∈ ys, Zb q 1500) (hl : xs.length ≤ 1000) (mu : List MO) : F_added [.tup (xs.map .rat), .tup (ys.map .rat)] mu = .ok (.tup ((List.zipWith (· + ·) xs ys).map .rat)) mu := by
  have ec := comp_eq (tg := gT 2 (gCons (gN 2) (gCons (gN 3) gNil))) (te := e_added_1) (vs := [2, 3]) (s := ⟨[some (.val (.tup (xs.map .rat))), some (.val (.tup (ys.map .rat))), none, none], mu⟩) (xs.zip ys) (fun p => .tup [.rat p.1, .rat p.2]) (fun p => .rat (p.1 + p.2)) (by rw [List.length_zip]; omega) (fun p hp => by
    obtain ⟨h1, h2⟩ := mem_zip hp
    have e := e_add (p := .rat p.2) (hx _ h1) (hy _ h2) (.inl rfl) (by omega) mu
    simp [e_added_1, gRL, e, wipeE])
  simp [F_added, runBody, d_added, seqP, zipP_map, ec, wipeE, zw_map, -List.map_map, -List.map_zipWith]
theorem sms_add (M : Mz D B N o) : List.zipWith (· + ·) (sms o xs) (sms o ys) = sms o (xs ++ ys) := (sms_append o xs ys).symm
section
variable {mu : List MO} {a : Nat} {ps : List PV}
theorem e_psof {many : Int} {ss : List Rat} (M : Mz D B N o) (hz : ∀ q ∈ qs, Zd D B q) (hn : qs.length ≤ N) (hp : All2 qs ps) (h : mu[a]? = some (moV many o ss)) : F_Moments_power_sums_of [.ptr a, .tup ps] mu = .ok (.tup ((sms o qs).map .rat)) mu := by
  have h8 := M.o8
  have hN := M.n1
  have hlen := hp.len
  have ep := e_power_sums (o := o) M.sm M.hD hz (by omega) M.o8 mu
  have hw : W (F_Moments_power_sums_of [.ptr a, .tup ps] mu) fun v mu' => v = .tup ((sms o qs).map .rat) ∧ mu' = mu := by
    unfold F_Moments_power_sums_of d_Moments_power_sums_of
    simp [W_runBody]
    refine W_forL (I := fun xs s => ∃ o2 : Option SV, (∀ x ∈ xs, ∃ q, Is q x) ∧ s = ⟨[some (.val (.ptr a)), some (.val (.tup ps)), o2], mu⟩) ⟨none, fun x hx => by obtain ⟨q, _, hq⟩ := hp.mem hx; exact ⟨q, hq⟩, rfl⟩ ?_ ?_
    · rintro x xs _ ⟨o2, hx, rfl⟩
      obtain ⟨q, hq⟩ := hx x List.mem_cons_self
      have e := e_need_number hq mu
      unfold b_Moments_power_sums_of_1
      simp [e]
      exact fun y hy => hx y (List.mem_cons_of_mem _ hy)
    · rintro _ ⟨o2, _, rfl⟩
      have e2 := compL_map (t := gN 2) (tt := dYes) (te := dFnS F_ratio_of (dCons (dVar 2) dNil)) (vs := [2]) (s0 := ⟨[some (.val (.ptr a)), some (.val (.tup ps)), none], mu⟩) (f := fun p => PV.rat (val p)) ps [] (fun x hx => by
        obtain ⟨q, _, hq⟩ := hp.mem hx
        have e := e_ratio_of hq mu
        refine ⟨_, ⟨[some (.val (.ptr a)), some (.val (.tup ps)), some (.val x)], mu⟩, rfl, rfl, ?_, rfl⟩
        simp [e, val_is hq]) (by simp; omega)
      rw [hp.vals] at e2
      simp [e2, wipeE, h, moV, optR, ep]
  obtain ⟨v, mu', e, rfl, rfl⟩ := hw.out
  exact e
theorem set_set {mu : List MO} {a : Nat} {x y : MO} : (mu.set a x).set a y = mu.set a y := by simp
theorem get_set {mu : List MO} {a : Nat} {x y : MO} (h : mu[a]? = some y) : (mu.set a x)[a]? = some x := by
  have := (List.getElem?_eq_some_iff.mp h).1
  simp [this]
theorem e_feed (M : Mz D B N o) (hx : ∀ q ∈ xs, Zd D B q) (hz : ∀ q ∈ qs, Zd D B q) (hn : xs.length + qs.length ≤ N) (hp : All2 qs ps) (h : mu[a]? = some (moO o xs)) : F_Moments_feed [.ptr a, .tup ps] mu = .ok .non (mu.set a (moO o (xs ++ qs))) := by
  have hN := M.n1
  have h8 := M.o8
  have hlen := hp.len
  have e1 := e_psof M hz (by omega) hp h
  have e2 := e_added (sms_zb M hx (by omega)) (sms_zb M hz (by omega)) (by rw [sms_len]; omega) mu
  rw [sms_add M] at e2
  have g2 := get_set (x := .nst "Moments" moN [.str "moments", .int (xs.length : Int), .int (o : Int), .tup ((sms o (xs ++ qs)).map .rat)]) h
  have hm : ((xs.length : Int) + (ps.length : Int)) = (((xs ++ qs).length : Nat) : Int) := by rw [List.length_append, hlen]; omega
  have s1 : dFPutN ["Moments"] "own_sums" (dVar 0) (dFnS F_added (dCons (dUn (fFldN ["Moments"] "own_sums") (dVar 0)) (dCons (dMethN "power_sums_of" [("Moments", fMt 2 F_Moments_power_sums_of)] (dVar 0) (dCons (dVar 1) dNil)) dNil))) ⟨[some (.val (.ptr a)), some (.val (.tup ps))], mu⟩ =
      .ok .nx ⟨[some (.val (.ptr a)), some (.val (.tup ps))], mu.set a (.nst "Moments" moN [.str "moments", .int (xs.length : Int), .int (o : Int), .tup ((sms o (xs ++ qs)).map .rat)])⟩ := by
    have hnm : ¬ (("power_sums_of" : Str) ∈ moN) := by decide +kernel
    unfold moO moV at h
    simp [h, optR, e1, e2, hnm]
  have s2 : dFPutN ["Summary", "Moments"] "own_many" (dVar 0) (dBin gAdd (dUn (fFldN ["Summary", "Moments"] "own_many") (dVar 0)) (dFn fLen (dCons (dVar 1) dNil))) ⟨[some (.val (.ptr a)), some (.val (.tup ps))], mu.set a (.nst "Moments" moN [.str "moments", .int (xs.length : Int), .int (o : Int), .tup ((sms o (xs ++ qs)).map .rat)])⟩ =
      .ok .nx ⟨[some (.val (.ptr a)), some (.val (.tup ps))], mu.set a (moO o (xs ++ qs))⟩ := by
    simp [g2, optR, hm, moO, moV, -List.length_append]
  have e : d_Moments_feed ⟨[some (.val (.ptr a)), some (.val (.tup ps))], mu⟩ = .ok .nx ⟨[some (.val (.ptr a)), some (.val (.tup ps))], mu.set a (moO o (xs ++ qs))⟩ := (seq_nx s1).trans s2
  show (match d_Moments_feed ⟨[some (.val (.ptr a)), some (.val (.tup ps))], mu⟩ with | .ok (.rt v) s => R.ok v s.mu | .ok .nx s => .ok .non s.mu | .ok _ _ => .bad | .exn e s => .exn e s.mu | .bad => .bad) = _
  rw [e]
end
end
end PX
set_option maxHeartbeats 1000000
namespace PX
open PySem L3 LD PC PD
section
variable {D B N o : Nat} {qs xs ys : List Rat} {mu : List MO} {a b : Nat}
@[simp] theorem gEqV_rats (us vs : List Rat) (h : PV → PV → L3.S → R L3.S PV) (st : L3.S) : gEqV h (.tup (us.map .rat)) (.tup (vs.map .rat)) st = .ok (.bl (decide (us = vs))) st := by
  unfold gEqV
  simp only [ratsP_map]
@[simp] theorem gEqV_int (i j : Int) (h : PV → PV → L3.S → R L3.S PV) (st : L3.S) : gEqV h (.int i) (.int j) st = h (.int i) (.int j) st := rfl
theorem e_mo_eq {m1 m2 : Int} {o1 o2 : Nat} {s1 s2 : List Rat} (h1 : mu[a]? = some (moV m1 o1 s1)) (h2 : mu[b]? = some (moV m2 o2 s2)) : F_Moments___eq__ [.ptr a, .ptr b] mu = .ok (.bl (decide (o1 = o2 ∧ m1 = m2 ∧ s1 = s2))) mu := by
  have hk : F_is_same_kind [.ptr a, .ptr b] mu = .ok (.bl true) mu := by
    have qk : ∀ st, gEq false (.str "moments") (.str "moments") st = .ok (.bl true) st := fun st => by kernel_rfl
    unfold moV at h1 h2
    simp [F_is_same_kind, runBody, d_is_same_kind, h1, h2, optR, qk, -gEq]
  unfold moV at h1 h2
  by_cases c1 : o1 = o2
  · subst c1
    by_cases c2 : m1 = m2
    · subst c2
      simp [F_Moments___eq__, runBody, d_Moments___eq__, h1, h2, optR, hk]
    · have : (m1 == m2) = false := by simpa using c2
      simp [F_Moments___eq__, runBody, d_Moments___eq__, h1, h2, optR, hk, c2, this]
  · have : ((o1 : Int) == (o2 : Int)) = false := by simp; omega
    simp [F_Moments___eq__, runBody, d_Moments___eq__, h1, h2, optR, hk, c1, this]
end
end PX
set_option maxHeartbeats 1000000
set_option maxHeartbeats 1000000
namespace PX
open PySem L3 LD PC PD
section
variable {D B N o : Nat} {qs xs ys : List Rat} {mu : List MO} {a b : Nat}
theorem Mz.pz (M : Mz D B N o) {x : Rat} (hx : Zd D B x) {j : Nat} (hj : j ≤ o) : Zb (x ^ j) 1500 :=
  (hx.powle M.b1 hj).zb (Nat.pow_pos M.sm.pos) (Nat.le_trans (Nat.mul_le_mul_right _ (Nat.le_mul_of_pos_left _ M.n0)) M.pw) M.dp
theorem Mz.one (M : Mz D B N o) {x : Rat} (hx : Zd D B x) : Zb x 1500 := by
  have h := M.pz hx (j := 1) (by have := M.o2; omega)
  rwa [Rat.pow_succ, Rat.pow_zero, Rat.one_mul] at h
theorem Mz.sm2 (M : Mz D B N o) : Sm (D ^ o) (N * B ^ o + B ^ o) := by
  have h : B ^ o * D ^ o ≤ N * B ^ o * D ^ o := Nat.mul_le_mul_right _ (Nat.le_mul_of_pos_left _ M.n0)
  refine ⟨Nat.pow_pos M.sm.pos, ?_, Nat.le_trans M.dp (Nat.pow_le_pow_right (by decide) (by decide))⟩
  rw [Nat.add_mul]
  have h2 := M.pw
  calc N * B ^ o * D ^ o + B ^ o * D ^ o ≤ 2 ^ 1500 + 2 ^ 1500 := Nat.add_le_add h2 (Nat.le_trans h h2)
    _ = 2 ^ 1501 := by decide +kernel
    _ ≤ 2 ^ 3990 := Nat.pow_le_pow_right (by decide) (by decide)
theorem lpow_a (M : Mz D B N o) (hz : ∀ q ∈ qs, Zd D B q) (i : Int) (k : Nat) (hk : k < o) (mu : List MO) (q : Rat) (hq : q ∈ qs) (ev : PV) : F_w_power [fr q, .int ((k : Int) + 1)] mu = .ok (fr (q ^ (k + 1))) mu := by
  have h8 := M.o8
  have e := e_power (x := q) (z := 1500) (i := (k : Int) + 1) (M.one (hz q hq)) (fun j hj => M.pz (hz q hq) (by omega)) (by decide) (by omega) (by omega) mu
  rw [show ((k : Int) + 1).toNat = k + 1 by omega] at e
  exact e
theorem lpow_t {i kk : Int} {k : Nat} {q : Rat} (e : F_w_power [fr q, .int (kk + 1)] mu = .ok (fr (q ^ (k + 1))) mu) : e_w_powers_1 ⟨[some (.val (.lst (qs.map fr))), some (.val (.int i)), some (.val (.int kk)), some (.val (fr q))], mu⟩ = .ok (fr (q ^ (k + 1))) ⟨[some (.val (.lst (qs.map fr))), some (.val (.int i)), some (.val (.int kk)), some (.val (fr q))], mu⟩ := by
  simp [e_w_powers_1, e]
theorem lpow_u {i kk : Int} {k : Nat} {q : Rat} (e : F_w_power [fr q, .int (kk + 1)] mu = .ok (fr (q ^ (k + 1))) mu) : W (gN 3 (fr q) ⟨[some (.val (.lst (qs.map fr))), some (.val (.int i)), some (.val (.int kk)), none], mu⟩) fun _ s1 => W (e_w_powers_1 s1) fun y s3 => y = fr (q ^ (k + 1)) ∧ wipeS [3] s3 = ⟨[some (.val (.lst (qs.map fr))), some (.val (.int i)), some (.val (.int kk)), none], mu⟩ := by
  have e2 := lpow_t (qs := qs) (i := i) e
  simp [e2, wipeE]
theorem lpow_b (M : Mz D B N o) (hz : ∀ q ∈ qs, Zd D B q) (hn : qs.length ≤ N) (i : Int) (k : Nat) (hk : k < o) (mu : List MO) : compL (gN 3) dYes e_w_powers_1 [3] (qs.map fr) [] ⟨[some (.val (.lst (qs.map fr))), some (.val (.int i)), some (.val (.int (k : Int))), none], mu⟩ = .ok (qs.map fun q => fr (q ^ (k + 1))) ⟨[some (.val (.lst (qs.map fr))), some (.val (.int i)), some (.val (.int (k : Int))), none], mu⟩ :=
  comp_eq qs fr (fun q => fr (q ^ (k + 1))) (Nat.le_trans hn (Nat.le_trans M.n1 (by decide))) (fun q hq => lpow_u (lpow_a M hz i k hk mu q hq .non))
theorem lpow_c (M : Mz D B N o) (hz : ∀ q ∈ qs, Zd D B q) (hn : qs.length ≤ N) (k : Nat) (hk : k < o) (mu : List MO) : F_w_sum [.lst (qs.map fun q => fr (q ^ (k + 1)))] mu = .ok (fr (smo qs (k + 1))) mu := by
  have es := z_sum (N := N) (qs := qs.map (· ^ (k + 1))) M.sm2 (fun q hq => by
    obtain ⟨x, hx, rfl⟩ := List.mem_map.mp hq
    exact (hz x hx).powle M.b1 (by omega)) (by rw [List.length_map]; exact hn) mu
  rw [List.map_map] at es
  exact es
theorem lpow_in (M : Mz D B N o) (hz : ∀ q ∈ qs, Zd D B q) (hn : qs.length ≤ N) (i : Int) (k : Nat) (hk : k < o) (mu : List MO) : e_w_powers_2 ⟨[some (.val (.lst (qs.map fr))), some (.val (.int i)), some (.val (.int (k : Int))), none], mu⟩ = .ok (fr (smo qs (k + 1))) ⟨[some (.val (.lst (qs.map fr))), some (.val (.int i)), some (.val (.int (k : Int))), none], mu⟩ := by
  have ec := lpow_b M hz hn i k hk mu
  have es := lpow_c M hz hn k hk mu
  generalize (k : Int) = kk at ec ⊢
  simp [e_w_powers_2, wipeE, ec, es]
theorem e_lpowers (M : Mz D B N o) (hz : ∀ q ∈ qs, Zd D B q) (hn : qs.length ≤ N) {i : Int} (hi : i.toNat = o) (h0 : 0 ≤ i) (mu : List MO) : F_w_powers [.lst (qs.map fr), .int i] mu = .ok (.lst ((sms o qs).map fr)) mu := by
  have h8 := M.o8
  have hN := M.n1
  have ec := comp_eq (tg := gN 2) (te := e_w_powers_2) (vs := [2]) (s := ⟨[some (.val (.lst (qs.map fr))), some (.val (.int i)), none, none], mu⟩) (List.range o) (fun k : Nat => PV.int (k : Int)) (fun k => fr (smo qs (k + 1))) (by rw [List.length_range]; omega) (fun k hk => by
    have h := lpow_in M hz hn i k (List.mem_range.mp hk) mu
    simp [h, wipeE])
  have er : rangeP 0 i.toNat = (List.range o).map fun k : Nat => PV.int (k : Int) := by
    rw [hi]
    unfold rangeP
    exact List.map_congr_left fun k _ => by rw [Int.zero_add]
  have hi2 : (-4611686018427387904 : Int) ≤ i ∧ i < 4611686018427387904 := by omega
  have e3 : (List.range o).map (fun k => fr (smo qs (k + 1))) = (sms o qs).map fr := by unfold sms; rw [List.map_map]; rfl
  rw [e3] at ec
  simp [F_w_powers, runBody, d_w_powers, hi2, er, wipeE, ec, -List.map_map]
end
end PX
set_option maxHeartbeats 1000000
namespace PX
open PySem L3 LD PC PD
section
variable {D B N o : Nat} {qs xs ys : List Rat} {mu : List MO} {a b : Nat} {env : List (Option SV)}
theorem e_all_takenT (hl : qs.length ≤ 10000) (mu : List MO) : F_w_all_taken [.tup (qs.map .rat)] mu = .ok (.lst (qs.map fr)) mu := by
  have ec := comp_eq (tg := gN 1) (te := dFnS F_w_taken (dCons (dVar 1) dNil)) (vs := [1]) (s := ⟨[some (.val (.tup (qs.map .rat))), none], mu⟩) qs .rat fr (Nat.le_trans hl (by decide)) (fun q hq => by
    have e := e_taken q mu
    simp [e, wipeE])
  simp [F_w_all_taken, runBody, d_w_all_taken, wipeE, ec]
theorem ne_same {p : PV} (h : okD 8 p = true) (st : L3.S) : gEq true p p st = .ok (.bl false) st := gEq_self true h st
end
end PX
set_option maxHeartbeats 1000000
set_option maxHeartbeats 1000000
set_option maxHeartbeats 1000000
set_option maxHeartbeats 1000000
set_option maxHeartbeats 1000000
set_option maxHeartbeats 1000000
set_option maxHeartbeats 1000000
set_option maxHeartbeats 1000000
set_option maxHeartbeats 1000000
namespace PX
open PySem L3 LD PC PD
theorem get_app {mu : List MO} {o : MO} {n : Nat} {x : MO} (h : mu[n]? = some x) : (mu ++ [o])[n]? = some x := by
  rw [List.getElem?_append_left (List.getElem?_eq_some_iff.mp h).1]
  exact h
end PX
set_option maxHeartbeats 1000000
namespace PX
open PySem L3 LD PC PD
def ObR (l : List (Nat × MO)) (mu : List MO) : Prop := ∀ p ∈ l, mu[p.1]? = some p.2
structure ObS (l : List (Nat × MO)) (mu : List MO) (n k : Nat) : Prop where
  src : Src mu n k
  obs : ObR l mu
  ne : ∀ p ∈ l, p.1 ≠ n
  nd : (l.map (·.1)).Nodup
section
variable {l : List (Nat × MO)} {mu : List MO} {n k a : Nat} {x y : MO}
theorem ObS.le {k' : Nat} (h : ObS l mu n k) (hk : k ≤ k') : ObS l mu n k' := ⟨h.src.le hk, h.obs, h.ne, h.nd⟩
theorem ObS.at_ (h : ObS l mu n k) {p : Nat × MO} (hp : p ∈ l) : mu[p.1]? = some p.2 := h.obs p hp
theorem ObS.head (h : ObS ((a, x) :: l) mu n k) : mu[a]? = some x := h.obs (a, x) List.mem_cons_self
theorem ObS.set (h : ObS ((a, x) :: l) mu n k) (hf : flatM y = true) : ObS ((a, y) :: l) (mu.set a y) n k := by
  have hd := h.head
  have hne : a ≠ n := h.ne (a, x) List.mem_cons_self
  have hnd := List.nodup_cons.mp h.nd
  refine ⟨⟨?_, flat_set h.src.flat hf, trivial, fun _ _ _ => trivial⟩, fun p hp => ?_, fun p hp => ?_, h.nd⟩
  · obtain ⟨c, k0, d, h1, h2, h3⟩ := h.src.at_
    exact ⟨c, k0, d, by rw [List.getElem?_set_ne hne]; exact h1, h2, h3⟩
  · rcases List.mem_cons.mp hp with e | hp
    · subst e; exact get_set hd
    · rw [List.getElem?_set_ne (fun z => hnd.1 (List.mem_map.mpr ⟨p, hp, z.symm⟩))]
      exact h.obs p (List.mem_cons_of_mem _ hp)
  · rcases List.mem_cons.mp hp with e | hp
    · subst e; exact hne
    · exact h.ne p (List.mem_cons_of_mem _ hp)
theorem ObS.of (h : Src mu n k) : ObS [] mu n k := ⟨h, (fun p hp => by cases hp), (fun p hp => by cases hp), List.nodup_nil⟩
end
section
variable {D B N o : Nat} {qs xs : List Rat} {ps : List PV} {l : List (Nat × MO)} {mu : List MO} {n k a : Nat} {Q : PV → List MO → Prop}
/-- feeding in the law: the method with its star -/
theorem m_feed (M : Mz D B N o) (hx : ∀ q ∈ xs, Zd D B q) (hz : ∀ q ∈ qs, Zd D B q) (hn : xs.length + qs.length ≤ N) (hp : All2 qs ps) (h : mu[a]? = some (moO o xs)) (env : List (Option SV)) : fMtS 1 F_Moments_feed (.ptr a :: ps) ⟨env, mu⟩ = .ok .non ⟨env, mu.set a (moO o (xs ++ qs))⟩ := by
  have e := e_feed M hx hz hn hp h
  have hl : 1 ≤ (PV.ptr a :: ps).length ∧ (PV.ptr a :: ps).length ≤ 16777216 := by
    have := hp.len
    have := M.n1
    rw [List.length_cons]
    omega
  unfold fMtS
  rw [if_pos hl]
  simp [starP, e]
end
end PX
set_option maxHeartbeats 1000000
set_option maxHeartbeats 1000000
namespace PX
open PySem L3 LD PC PD
section
variable {D B N o : Nat} {qs xs : List Rat} {ps : List PV} {l : List (Nat × MO)} {mu : List MO} {n k a : Nat} {Q : PV → List MO → Prop}
theorem mo_new (o : Nat) : moV 0 o (List.replicate o 0) = moO o [] := by
  unfold moO
  congr 1
  unfold sms
  rw [List.map_congr_left (g := fun _ => (0 : Rat)) (fun j _ => by simp [smo, sumQ]), List.map_const', List.length_range]
/-- a new object of the law -/
theorem x_new (h2 : 2 ≤ o) (h8 : o ≤ 8) (as : PV → List PV) (hs : ∀ p, as p = [p, .int (o : Int), .non]) (env : List (Option SV)) : newG "Moments" F_Moments___init__ as ⟨env, mu⟩ = .ok (.ptr mu.length) ⟨env, mu ++ [moO o []]⟩ := by
  unfold newG
  rw [hs, e_mo_init h2 h8 (.inl ⟨rfl, rfl, rfl⟩), mo_new]
end
end PX
set_option maxHeartbeats 1000000
namespace PX
open PySem L3 LD PC PD
def chs : Nat → List Int
  | 0 => [1]
  | n + 1 => List.zipWith (· + ·) (chs n ++ [0]) (0 :: chs n)
def pev (x b : Rat) : List Int → Rat
  | [] => 0
  | c :: l => (c : Rat) * b ^ l.length + x * pev x b l
theorem pev_snoc (x b : Rat) : ∀ l : List Int, pev x b (l ++ [0]) = b * pev x b l
  | [] => by simp [pev, Rat.add_zero]
  | c :: l => by
    rw [List.cons_append, pev, pev, pev_snoc x b l, List.length_append]
    have : b ^ (l.length + [(0 : Int)].length) = b ^ l.length * b := Rat.pow_succ b l.length
    rw [this]
    generalize b ^ l.length = t
    generalize pev x b l = p
    grind
theorem pev_zero (x b : Rat) (l : List Int) : pev x b (0 :: l) = x * pev x b l := by
  rw [pev]
  simp [Rat.zero_add]
theorem pev_zip (x b : Rat) : ∀ l m : List Int, l.length = m.length → pev x b (List.zipWith (· + ·) l m) = pev x b l + pev x b m
  | [], [], _ => by simp [pev, Rat.add_zero]
  | c :: l, d :: m, h => by
    have hl : l.length = m.length := by simpa using h
    rw [List.zipWith_cons_cons, pev, pev, pev, pev_zip x b l m hl, List.length_zipWith, ← hl, Nat.min_self]
    generalize b ^ l.length = t
    generalize pev x b l = p
    generalize pev x b m = q
    rw [Rat.intCast_add]
    grind
theorem chs_len : ∀ n : Nat, (chs n).length = n + 1
  | 0 => rfl
  | n + 1 => by rw [chs, List.length_zipWith, List.length_append, List.length_cons, chs_len n]; simp [chs_len n]
theorem pev_chs (x b : Rat) : ∀ n : Nat, pev x b (chs n) = (x + b) ^ n
  | 0 => by simp [chs, pev, Rat.add_zero]
  | n + 1 => by
    rw [chs, pev_zip _ _ _ _ (by simp), pev_snoc, pev_zero, pev_chs x b n, Rat.pow_succ]
    generalize (x + b) ^ n = t
    grind
/-- the sum over a row, from the i-th power on -/
def shs (f : Nat → Rat) (b : Rat) : Nat → List Int → Rat
  | _, [] => 0
  | i, c :: l => f i * (c : Rat) * b ^ l.length + shs f b (i + 1) l
theorem shs_smo (b : Rat) : ∀ (l : List Int) (i : Nat) (qs : List Rat), shs (smo qs) b i l = sumQ (qs.map fun x => x ^ i * pev x b l)
  | [], i, qs => by
    induction qs with
    | nil => rfl
    | cons q qs ih => rw [List.map_cons, sumQ_cons, ← ih]; simp [shs, pev, Rat.add_zero]
  | c :: l, i, qs => by
    rw [shs, shs_smo b l (i + 1) qs]
    generalize hp : (c : Rat) * b ^ l.length = p
    rw [Rat.mul_assoc, hp]
    induction qs with
    | nil => simp [smo, sumQ, Rat.add_zero]
    | cons q qs ih =>
      rw [smo_cons, List.map_cons, List.map_cons, sumQ_cons, sumQ_cons, ← ih, pev, hp, Rat.pow_succ]
      generalize smo qs i = s
      generalize sumQ (qs.map fun x => x ^ (i + 1) * pev x b l) = t
      generalize pev q b l = v
      generalize q ^ i = w
      grind
theorem shs_chs (b : Rat) (k : Nat) (qs : List Rat) : shs (smo qs) b 0 (chs k) = smo (qs.map (· + b)) k := by
  rw [shs_smo]
  unfold smo
  rw [List.map_map]
  congr 1
  refine List.map_congr_left fun x _ => ?_
  rw [pev_chs, Rat.pow_zero, Rat.one_mul]
  rfl
theorem e_choices (k : Nat) (hk : k ≤ 8) (mu : List MO) : F_choices [.int (k : Int)] mu = .ok (.lst ((chs k).map .int)) mu := by
  obtain rfl | rfl | rfl | rfl | rfl | rfl | rfl | rfl | rfl : k = 0 ∨ k = 1 ∨ k = 2 ∨ k = 3 ∨ k = 4 ∨ k = 5 ∨ k = 6 ∨ k = 7 ∨ k = 8 := by omega
  all_goals kernel_rfl
end PX
set_option maxHeartbeats 1000000
namespace PX
open PySem L3 LD PC PD
/-- sizes for moved sums of powers -/
structure Sz (D B N o E C : Nat) : Prop where
  m : Mz D B N o
  e0 : 0 < E
  c1 : 1 ≤ C
  t : (700 * (N * B ^ o) * C ^ o) * (D ^ o * E ^ o) ≤ 2 ^ 3900
  u : D ^ o * E ^ o ≤ 2 ^ 3900
section
variable {D B N o E C k : Nat} {qs : List Rat} {b : Rat}
theorem chs_le : ∀ k ≤ 8, ∀ c ∈ chs k, c.natAbs ≤ 70 := by decide +kernel
theorem Sz.dpos (Z : Sz D B N o E C) : 0 < D ^ o := Nat.pow_pos Z.m.sm.pos
theorem Sz.epos (Z : Sz D B N o E C) : 0 < E ^ o := Nat.pow_pos Z.e0
theorem Sz.bpos (Z : Sz D B N o E C) : 1 ≤ N * B ^ o := Nat.mul_pos Z.m.n0 (Nat.pow_pos Z.m.b1)
theorem Sz.cpos (Z : Sz D B N o E C) : 1 ≤ C ^ o := Nat.pow_pos Z.c1
/-- a factor of a term -/
theorem Sz.fac (Z : Sz D B N o E C) {x : Rat} (h : Zd (D ^ o) (N * B ^ o * 70) x) : Zb x 3900 := by
  refine h.zb Z.dpos (Nat.le_trans ?_ Z.t) (Nat.le_trans (Nat.le_mul_of_pos_right _ Z.epos) Z.u)
  have h1 : N * B ^ o * 70 ≤ 700 * (N * B ^ o) * C ^ o := by
    have := Nat.mul_le_mul_left (700 * (N * B ^ o)) Z.cpos
    omega
  exact Nat.mul_le_mul h1 (Nat.le_mul_of_pos_right _ Z.epos)
theorem Sz.pow (Z : Sz D B N o E C) {x : Rat} (h : Zd (E ^ o) (C ^ o) x) : Zb x 3900 := by
  refine h.zb Z.epos (Nat.le_trans ?_ Z.t) (Nat.le_trans (Nat.le_mul_of_pos_left _ Z.dpos) Z.u)
  have h1 : C ^ o ≤ 700 * (N * B ^ o) * C ^ o := Nat.le_mul_of_pos_left _ (by have := Z.bpos; omega)
  exact Nat.mul_le_mul h1 (Nat.le_mul_of_pos_left _ Z.dpos)
theorem Sz.par (Z : Sz D B N o E C) {i : Nat} (hi : i ≤ 10) {x : Rat} (h : Zd (D ^ o * E ^ o) (i * (N * B ^ o * 70 * C ^ o)) x) : Zb x 3900 := by
  refine h.zb (Nat.mul_pos Z.dpos Z.epos) (Nat.le_trans (Nat.mul_le_mul_right _ ?_) Z.t) Z.u
  calc i * (N * B ^ o * 70 * C ^ o) ≤ 10 * (N * B ^ o * 70 * C ^ o) := Nat.mul_le_mul_right _ hi
    _ = 700 * (N * B ^ o) * C ^ o := by rw [← Nat.mul_assoc, Nat.mul_comm (N * B ^ o) 70, ← Nat.mul_assoc]
theorem smo_zero : ∀ qs : List Rat, smo qs 0 = ((qs.length : Int) : Rat)
  | [] => rfl
  | q :: qs => by
    rw [smo_cons, smo_zero qs, Rat.pow_zero, List.length_cons, Int.natCast_add, Rat.intCast_add, Rat.add_comm]
    rfl
theorem bef (o : Nat) (qs : List Rat) : smo qs 0 :: sms o qs = (List.range (o + 1)).map (smo qs) := by
  rw [List.range_succ_eq_map, List.map_cons, List.map_map]
  rfl
theorem bef_at {i : Nat} (h : i ≤ o) : L2.atI (PV.rat (smo qs 0) :: (sms o qs).map .rat) (i : Int) = some (.rat (smo qs i)) := by
  rw [← List.map_cons (f := PV.rat), bef, List.map_map]
  rw [at_of (by simp; omega)]
  simp
theorem zbb (Z : Sz D B N o E C) (hb : Zd E C b) : Zb b 3900 := by
  have h1 := Z.m.o2
  have := hb.powle (K := o) Z.c1 (n := 1) (by omega)
  rw [Rat.pow_one] at this
  exact Z.pow this
/-- the sum of a power of moved numbers -/
theorem e_shifted_sum (Z : Sz D B N o E C) (hz : ∀ q ∈ qs, Zd D B q) (hn : qs.length ≤ N) (hb : Zd E C b) (hk : k ≤ o) (mu : List MO) :
    F_shifted_sum [.int (qs.length : Int), .tup ((sms o qs).map .rat), .int (k : Int), .rat b] mu = .ok (.rat (smo (qs.map (· + b)) k)) mu := by
  have o8 := Z.m.o8
  have hk8 : k ≤ 8 := by omega
  have q : W (F_shifted_sum [.int (qs.length : Int), .tup ((sms o qs).map .rat), .int (k : Int), .rat b] mu) fun v t => v = .rat (smo (qs.map (· + b)) k) ∧ t = mu := by
    have ec := fun mu => e_choices k hk8 mu
    unfold F_shifted_sum d_shifted_sum
    have hl : 1 + (sms o qs).length ≤ 16777216 := by
      rw [sms_len]
      exact Nat.le_trans (Nat.add_le_add_left o8 1) (by decide)
    have ml : ∀ st, fMakeR okR [.int (qs.length : Int)] st = .ok (.rat (smo qs 0)) st := fun st => by
      rw [smo_zero]
      generalize (qs.length : Int) = i
      rw [← divInt_one]
      rfl
    have m0 : ∀ st, fMakeR okR [.int 0] st = .ok (.rat 0) st := fun st => by rfl
    simp [W_runBody, ml, m0, hl, ec, -fMakeR]
    have hen : (enumP ((chs k).map PV.int)).length = k + 1 := by simp [enumP, chs_len]
    refine W_forL (I := fun xs s => ∃ (i : Nat) (f : Rat) (o6 o7 : Option SV), xs = (enumP ((chs k).map PV.int)).drop i ∧ i ≤ k + 1 ∧ noOwn o6 ∧ noOwn o7 ∧ f + shs (smo qs) b i ((chs k).drop i) = smo (qs.map (· + b)) k ∧ Zd (D ^ o * E ^ o) (i * (N * B ^ o * 70 * C ^ o)) f ∧
      s = ⟨[some (.val (.int (qs.length : Int))), some (.val (.tup ((sms o qs).map .rat))), some (.val (.int (k : Int))), some (.val (.rat b)), some (.val (.lst (.rat (smo qs 0) :: (sms o qs).map .rat))), some (.val (.rat f)), o6, o7], mu⟩)
      ⟨0, 0, none, none, rfl, Nat.zero_le _, trivial, trivial, ?_, ?_, rfl⟩ ?_ ?_
    · rw [Rat.zero_add]
      exact shs_chs b k qs
    · rw [Nat.zero_mul]
      exact Zd.zero
    · rintro x ys s ⟨i, f, o6, o7, e, hi, n6, n7, hf, zf, rfl⟩
      have hlt : i < (enumP ((chs k).map PV.int)).length := by
        rcases Nat.lt_or_ge i (enumP ((chs k).map PV.int)).length with z | z
        · exact z
        · rw [List.drop_of_length_le z] at e; cases e
      rw [List.drop_eq_getElem_cons hlt] at e
      cases e
      have hlt2 : i < (chs k).length := by rw [chs_len]; omega
      have ex : (enumP ((chs k).map PV.int))[i] = .tup [.int (i : Int), .int (chs k)[i]] := by
        simp [enumP, List.getD, hlt2]
      rw [ex]
      have hik : i ≤ k := by omega
      have ea := bef_at (o := o) (qs := qs) (i := i) (by omega)
      have hc := chs_le k hk8 (chs k)[i] (List.getElem_mem hlt2)
      have z1 : Zd (D ^ o) (N * B ^ o) (smo qs i) := smo_zd Z.m hz hn (by omega)
      have z2 : Zd (D ^ o) (N * B ^ o * 70) (smo qs i * ((chs k)[i] : Rat)) := by
        have := z1.mul (Zd.int hc)
        rwa [Nat.mul_one] at this
      have z3 : ∀ j ≤ k - i, Zd (E ^ o) (C ^ o) (b ^ j) := fun j hj => hb.powle Z.c1 (by omega)
      have z4 := z2.mul (z3 (k - i) (Nat.le_refl _))
      have z5 := zf.add (Nat.mul_pos Z.dpos Z.epos) z4
      have ekp : ((k : Int) - (i : Int)) = ((k - i : Nat) : Int) := by omega
      have zi : Zb (((chs k)[i] : Int) : Rat) 7 := Zb_int (Nat.le_trans hc (by decide))
      have m1 := fun mu => e_mul (p := .int (chs k)[i]) (z1.zb Z.dpos Z.m.pw Z.m.dp) zi (.inr ⟨rfl, rfl⟩) (by decide) mu
      have m2 := fun mu => e_power_of (x := b) (z := 3900) (i := ((k - i : Nat) : Int)) (zbb Z hb) (fun j hj => Z.pow (z3 j (by omega))) (by decide) (by omega) (by omega) mu
      have m3 := fun mu => e_mul (Z.fac z2) (Z.pow (z3 (k - i) (Nat.le_refl _))) (.inl rfl) (by decide) mu
      have m4 := fun mu => e_add (Z.par (by omega) zf) (Z.par (i := 1) (by decide) (by rwa [Nat.one_mul])) (.inl rfl) (by decide) mu
      rw [Int.toNat_natCast] at m2
      unfold b_shifted_sum_1
      simp [ea, ekp, m1, m2, m3, m4]
      refine ⟨i + 1, rfl, by omega, f + smo qs i * ((chs k)[i] : Rat) * b ^ (k - i), some (.val (.int (i : Int))), trivial, some (.val (.int (chs k)[i])), trivial, ?_, ?_, rfl, rfl, rfl⟩
      · rw [List.drop_eq_getElem_cons hlt2, shs, List.length_drop, chs_len, show k + 1 - (i + 1) = k - i from by omega, ← Rat.add_assoc] at hf
        exact hf
      · rwa [← Nat.succ_mul] at z5
    · rintro s ⟨i, f, o6, o7, e, hi, n6, n7, hf, zf, rfl⟩
      have : k + 1 ≤ i := by
        have h := congrArg List.length e
        rw [List.length_drop, hen] at h
        simp at h
        omega
      rw [List.drop_of_length_le (by rw [chs_len]; exact this), shs, Rat.add_zero] at hf
      simp [hf]
  obtain ⟨v, t, e, rfl, rfl⟩ := q.out
  exact e
end
end PX
set_option maxHeartbeats 1000000
namespace PX
open PySem L3 LD PC PD
section
variable {D B N o E C k a : Nat} {qs : List Rat} {b : Rat} {p : PV} {mu : List MO}
/-- a new object from its size and sums -/
theorem x_newK {many : Int} {ss : List Rat} (h2 : 2 ≤ o) (h8 : o ≤ 8) (as : PV → List PV) (hs : ∀ p, as p = [p, .int (o : Int), .tup [.int many, .tup (ss.map .rat)]]) (env : List (Option SV)) : newG "Moments" F_Moments___init__ as ⟨env, mu⟩ = .ok (.ptr mu.length) ⟨env, mu ++ [moV many o ss]⟩ := by
  unfold newG
  rw [hs, e_mo_init h2 h8 (.inr rfl)]
theorem x_newK' {many : Int} {ss : List Rat} (h2 : 2 ≤ o) (h8 : o ≤ 8) (env : List (Option SV)) (mu : List MO) : newG "Moments" F_Moments___init__ (fun p => pick3 [(0, 0), (2, 0), (2, 1)] [p] [] [.int (o : Int), .tup [.int many, .tup (ss.map .rat)]]) ⟨env, mu⟩ = .ok (.ptr mu.length) ⟨env, mu ++ [moV many o ss]⟩ :=
  x_newK h2 h8 _ (fun p => rfl) env
theorem e_mo_copied (h2 : 2 ≤ o) (h8 : o ≤ 8) (h : mu[a]? = some (moO o qs)) : F_Moments_copied [.ptr a] mu = .ok (.ptr mu.length) (mu ++ [moO o qs]) := by
  have e := x_newK' (many := (qs.length : Int)) (ss := sms o qs) h2 h8 [some (.val (.ptr a))] mu
  unfold moO at h ⊢
  generalize (qs.length : Int) = many at *
  generalize hoo : moV many o (sms o qs) = M0 at e
  unfold moV at h
  subst hoo
  unfold F_Moments_copied d_Moments_copied runBody dRet dNewK
  simp [h, e, -newG, -pick3]
theorem e_mo_shifted (Z : Sz D B N o E C) (hz : ∀ q ∈ qs, Zd D B q) (hn : qs.length ≤ N) (hp : Is b p) (hb : Zd E C b) (h : mu[a]? = some (moO o qs)) : F_Moments_shifted [.ptr a, p] mu = .ok (.ptr mu.length) (mu ++ [moO o (qs.map (· + b))]) := by
  have e1 := e_need_number hp mu
  have e2 := e_ratio_of hp mu
  have h8 := Z.m.o8
  have ec := comp_eq (tg := gN 4) (te := e_Moments_shifted_1) (vs := [4]) (s := ⟨[some (.val (.ptr a)), some (.val p), some (.val (.rat b)), none, none], mu⟩) (List.range o) (fun k : Nat => PV.int (k : Int)) (fun k => .rat (smo (qs.map (· + b)) (k + 1))) (by rw [List.length_range]; exact Nat.le_trans h8 (by decide)) (fun k hk => by
    have es := e_shifted_sum Z hz hn hb (k := k + 1) (by have := List.mem_range.mp hk; omega) mu
    have h := h
    unfold moO moV at h
    rw [show ((k + 1 : Nat) : Int) = (k : Int) + 1 from by omega] at es
    generalize (k : Int) = kk at *
    generalize (qs.length : Int) = many at *
    simp [e_Moments_shifted_1, h, es, wipeE])
  have e3 : (List.range o).map (fun k => PV.rat (smo (qs.map (· + b)) (k + 1))) = (sms o (qs.map (· + b))).map .rat := by unfold sms; rw [List.map_map]; rfl
  rw [e3] at ec
  have er : rangeP 0 (o : Int).toNat = (List.range o).map fun k : Nat => PV.int (k : Int) := by
    unfold rangeP
    exact List.map_congr_left fun k _ => by rw [Int.zero_add]
  have e := fun env => x_newK' (many := (qs.length : Int)) (ss := sms o (qs.map (· + b))) Z.m.o2 h8 env mu
  have hlen : (qs.map (· + b)).length = qs.length := List.length_map _
  have hres : moO o (qs.map (· + b)) = moV (qs.length : Int) o (sms o (qs.map (· + b))) := by unfold moO; rw [hlen]
  rw [hres]
  have hoi : (-4611686018427387904 : Int) ≤ (o : Int) ∧ (o : Int) < 4611686018427387904 := by omega
  unfold moO at h
  generalize hoo : moV (qs.length : Int) o (sms o (qs.map (· + b))) = M0 at e ⊢
  unfold moV at h
  generalize (qs.length : Int) = many at *
  generalize sms o (qs.map (· + b)) = s1 at *
  generalize sms o qs = s0 at *
  generalize (o : Int) = oi at *
  simp [F_Moments_shifted, runBody, d_Moments_shifted, h, e1, e2, er, hoi, ec, wipeE, e, -newG, -pick3]
theorem enum_sms (o : Nat) (qs : List Rat) : enumP ((sms o qs).map PV.rat) = (List.range o).map fun i : Nat => PV.tup [.int (i : Int), .rat (smo qs (i + 1))] := by
  unfold enumP
  rw [List.length_map, sms_len]
  refine List.map_congr_left fun i hi => ?_
  have := List.mem_range.mp hi
  simp [sms, List.getD, this]
theorem mul_powR (x y : Rat) : ∀ k : Nat, (x * y) ^ k = x ^ k * y ^ k
  | 0 => by simp
  | k + 1 => by
    rw [Rat.pow_succ, Rat.pow_succ, Rat.pow_succ, mul_powR x y k]
    generalize x ^ k = s
    generalize y ^ k = t
    grind
theorem smo_scl (qs : List Rat) (b : Rat) (k : Nat) : smo (qs.map (· * b)) k = smo qs k * b ^ k := by
  induction qs with
  | nil => simp [smo, sumQ, Rat.zero_mul]
  | cons q qs ih =>
    rw [List.map_cons, smo_cons, smo_cons, ih, mul_powR]
    generalize b ^ k = t
    grind
theorem pw_by (Z : Sz D B N o E C) (hb : Zd E C b) {n : Nat} (hn : n ≤ o) (mu : List MO) : F_power_of [.rat b, .int (n : Int)] mu = .ok (.rat (b ^ n)) mu := by
  have h8 := Z.m.o8
  have m2 := e_power_of (x := b) (z := 3900) (i := (n : Int)) (zbb Z hb) (fun j hj => Z.pow (hb.powle Z.c1 (by omega))) (by decide) (by omega) (by omega) mu
  rw [Int.toNat_natCast] at m2
  exact m2
def sE38 (a : Nat) (p : PV) (b : Rat) (k : Int) (v : Rat) (mu : List MO) : L3.S := ⟨[some (.val (.ptr a)), some (.val p), some (.val (.rat b)), none, some (.val (.int k)), some (.val (.rat v))], mu⟩
theorem scl_1 {k : Int} {v w : Rat} (m2 : F_power_of [.rat b, .int (k + 1)] mu = .ok (.rat w) mu) : dFnS F_power_of (dCons (dVar 2) (dCons (dBin gAdd (dVar 4) (dC (.int 1))) dNil)) (sE38 a p b k v mu) = .ok (.rat w) (sE38 a p b k v mu) := by
  unfold sE38
  simp [m2]
theorem scl_2 {k : Int} {v w : Rat} (m2 : F_power_of [.rat b, .int (k + 1)] mu = .ok (.rat w) mu) (m3 : F_Ratio___mul__ [.rat v, .rat w] mu = .ok (.rat (v * w)) mu) : e_Moments_scaled_1 (sE38 a p b k v mu) = .ok (.rat (v * w)) (sE38 a p b k v mu) := by
  have h1 := scl_1 (a := a) (p := p) (v := v) m2
  have h0 : dVar 5 (sE38 a p b k v mu) = .ok (.rat v) (sE38 a p b k v mu) := rfl
  have h2 : gRL F_Ratio___mul__ gMul (.rat v) (.rat w) (sE38 a p b k v mu) = .ok (.rat (v * w)) (sE38 a p b k v mu) := by
    unfold sE38
    simp [gRL, m3]
  unfold e_Moments_scaled_1
  generalize dFnS F_power_of _ = d at *
  generalize dVar 5 = d5 at *
  generalize gRL _ _ = gg at *
  generalize sE38 a p b k v mu = st at *
  simp [h0, h1, h2]
theorem scl_in (Z : Sz D B N o E C) (hz : ∀ q ∈ qs, Zd D B q) (hn : qs.length ≤ N) (hb : Zd E C b) {k : Nat} (hk : k < o) (a : Nat) (p : PV) (mu : List MO) :
    e_Moments_scaled_1 (sE38 a p b (k : Int) (smo qs (k + 1)) mu) = .ok (.rat (smo (qs.map (· * b)) (k + 1))) (sE38 a p b (k : Int) (smo qs (k + 1)) mu) := by
  have h8 := Z.m.o8
  have z3 : ∀ j ≤ k + 1, Zd (E ^ o) (C ^ o) (b ^ j) := fun j hj => hb.powle Z.c1 (by omega)
  have z1 : Zd (D ^ o) (N * B ^ o) (smo qs (k + 1)) := smo_zd Z.m hz hn (by omega)
  have m2 := pw_by Z hb (n := k + 1) hk mu
  have m3 := e_mul (z1.zb Z.dpos Z.m.pw Z.m.dp) (Z.pow (z3 (k + 1) (Nat.le_refl _))) (.inl rfl) (by decide) mu
  rw [show ((k + 1 : Nat) : Int) = (k : Int) + 1 from Int.natCast_add k 1] at m2
  rw [smo_scl]
  exact scl_2 m2 m3
theorem e_mo_scaled (Z : Sz D B N o E C) (hz : ∀ q ∈ qs, Zd D B q) (hn : qs.length ≤ N) (hp : Is b p) (hb : Zd E C b) (h : mu[a]? = some (moO o qs)) : F_Moments_scaled [.ptr a, p] mu = .ok (.ptr mu.length) (mu ++ [moO o (qs.map (· * b))]) := by
  have e1 := e_need_number hp mu
  have e2 := e_ratio_of hp mu
  have h8 := Z.m.o8
  have ec := comp_eq (tg := gT 2 (gCons (gN 4) (gCons (gN 5) gNil))) (te := e_Moments_scaled_1) (vs := [4, 5]) (s := ⟨[some (.val (.ptr a)), some (.val p), some (.val (.rat b)), none, none, none], mu⟩) (List.range o) (fun i : Nat => PV.tup [.int (i : Int), .rat (smo qs (i + 1))]) (fun k => .rat (smo (qs.map (· * b)) (k + 1))) (by rw [List.length_range]; exact Nat.le_trans h8 (by decide)) (fun k hk => by
    have hk := scl_in Z hz hn hb (List.mem_range.mp hk) a p mu
    unfold sE38 at hk
    generalize (k : Int) = kk at *
    generalize smo qs (k + 1) = sk at *
    generalize smo (qs.map (· * b)) (k + 1) = sm at *
    simp [hk, wipeE])
  have e3 : (List.range o).map (fun k => PV.rat (smo (qs.map (· * b)) (k + 1))) = (sms o (qs.map (· * b))).map .rat := by unfold sms; rw [List.map_map]; rfl
  rw [e3] at ec
  have er := enum_sms o qs
  have e := fun env => x_newK' (many := (qs.length : Int)) (ss := sms o (qs.map (· * b))) Z.m.o2 h8 env mu
  have hlen : (qs.map (· * b)).length = qs.length := List.length_map _
  have hres : moO o (qs.map (· * b)) = moV (qs.length : Int) o (sms o (qs.map (· * b))) := by unfold moO; rw [hlen]
  rw [hres]
  unfold moO at h
  generalize hoo : moV (qs.length : Int) o (sms o (qs.map (· * b))) = M0 at e ⊢
  unfold moV at h
  generalize (qs.length : Int) = many at *
  generalize sms o (qs.map (· * b)) = s1 at *
  generalize hs0 : sms o qs = s0 at *
  simp [F_Moments_scaled, runBody, d_Moments_scaled, h, e1, e2, er, ec, wipeE, e, -newG, -pick3]
end
end PX
set_option maxHeartbeats 1000000
namespace PX
open PySem L3 LD PC PD
section
variable {D B N o E C k a : Nat} {qs : List Rat} {b : Rat} {p : PV} {mu : List MO}
theorem o28 (h2 : 2 ≤ o) (h8 : o ≤ 8) : o = 2 ∨ o = 3 ∨ o = 4 ∨ o = 5 ∨ o = 6 ∨ o = 7 ∨ o = 8 := by omega
theorem mzA (h2 : 2 ≤ o) (h8 : o ≤ 8) : Mz 60 30 7 o := by
  refine ⟨by decide, by decide +kernel, ⟨by decide, by decide +kernel, by decide +kernel⟩, ?_, ?_, h2, h8, by decide, by decide⟩ <;>
    obtain rfl | rfl | rfl | rfl | rfl | rfl | rfl := o28 h2 h8 <;> decide +kernel
theorem mzB (h2 : 2 ≤ o) (h8 : o ≤ 8) : Mz 60 60 7 o := by
  refine ⟨by decide, by decide +kernel, ⟨by decide, by decide +kernel, by decide +kernel⟩, ?_, ?_, h2, h8, by decide, by decide⟩ <;>
    obtain rfl | rfl | rfl | rfl | rfl | rfl | rfl := o28 h2 h8 <;> decide +kernel
theorem mzC (h2 : 2 ≤ o) (h8 : o ≤ 8) : Mz 3600 900 7 o := by
  refine ⟨by decide, by decide +kernel, ⟨by decide, by decide +kernel, by decide +kernel⟩, ?_, ?_, h2, h8, by decide, by decide⟩ <;>
    obtain rfl | rfl | rfl | rfl | rfl | rfl | rfl := o28 h2 h8 <;> decide +kernel
theorem szA (h2 : 2 ≤ o) (h8 : o ≤ 8) : Sz 60 30 7 o 60 30 := by
  refine ⟨mzA h2 h8, by decide, by decide, ?_, ?_⟩ <;>
    obtain rfl | rfl | rfl | rfl | rfl | rfl | rfl := o28 h2 h8 <;> decide +kernel
theorem szB (h2 : 2 ≤ o) (h8 : o ≤ 8) : Sz 60 60 7 o 60 30 := by
  refine ⟨mzB h2 h8, by decide, by decide, ?_, ?_⟩ <;>
    obtain rfl | rfl | rfl | rfl | rfl | rfl | rfl := o28 h2 h8 <;> decide +kernel
theorem szC (h2 : 2 ≤ o) (h8 : o ≤ 8) {E : Nat} (h0 : 0 < E) (hE : E ≤ 1800) : Sz 3600 900 7 o E 60 := by
  have hp : E ^ o ≤ 1800 ^ o := Nat.pow_le_pow_left hE o
  refine ⟨mzC h2 h8, h0, by decide, Nat.le_trans (Nat.mul_le_mul_left _ (Nat.mul_le_mul_left _ hp)) ?_, Nat.le_trans (Nat.mul_le_mul_left _ hp) ?_⟩ <;> clear hp <;>
    obtain rfl | rfl | rfl | rfl | rfl | rfl | rfl := o28 h2 h8 <;> decide +kernel
/-- the inverse of a number -/
theorem inv_zd {q : Rat} (h : Zd 60 30 q) (h0 : q ≠ 0) : ∃ E, 0 < E ∧ E ≤ 1800 ∧ Zd E 60 (1 / q) := by
  have hn : q.num ≠ 0 := fun z => h0 (by rw [← Rat.num_eq_zero]; exact z)
  have hd : q.den ≤ 60 := Nat.le_of_dvd (by decide) h.dvd
  have e : 1 / q = Rat.divInt q.den q.num := by
    rw [Rat.div_def, Rat.one_mul, Rat.inv_def]
  refine ⟨q.num.natAbs, by omega, ?_, ?_⟩
  · have := h.le
    have : 30 * q.den ≤ 30 * 60 := Nat.mul_le_mul_left _ hd
    omega
  · rw [e]
    refine Zd.divInt hn (Nat.dvd_refl _) ?_
    rw [Int.natAbs_natCast]
    have : 1 ≤ q.num.natAbs := by omega
    calc q.den ≤ 60 := hd
      _ = 60 * 1 := rfl
      _ ≤ 60 * q.num.natAbs := Nat.mul_le_mul_left _ this
theorem b_feed1 {f : Option SV} {o' : Nat} {q : List Rat} {v : PV} {s0 s1 : Option SV} {mu' : List MO} (h : mu[a]? = some (moO o' q)) (hf : ∀ env, fMtS 1 F_Moments_feed [.ptr a, v] ⟨env, mu⟩ = .ok .non ⟨env, mu'⟩) : b_w_fed_moments_1 ⟨[s0, s1, some (.val (.ptr a)), some (.val v)], mu⟩ = .ok .nx ⟨[s0, s1, some (.val (.ptr a)), some (.val v)], mu'⟩ := by
  have hnm : ¬ (("feed" : Str) ∈ moN) := by decide +kernel
  unfold moO moV at h
  have hf := hf [s0, s1, some (.val (.ptr a)), some (.val v)]
  unfold b_w_fed_moments_1
  generalize fMtS 1 F_Moments_feed = g at hf ⊢
  simp [h, hnm, hf]
/-- the law feeds one by one -/
theorem e_fed (M : Mz D B N o) (hz : ∀ q ∈ qs, Zd D B q) (hn : qs.length ≤ N) (mu : List MO) : F_w_fed_moments [.lst (qs.map fr), .int (o : Int)] mu = .ok (.ptr mu.length) (mu ++ [moO o qs]) := by
  have hN := M.n1
  have q : W (F_w_fed_moments [.lst (qs.map fr), .int (o : Int)] mu) fun v t => v = .ptr mu.length ∧ t = mu ++ [moO o qs] := by
    have en := fun env => x_new (o := o) (mu := mu) M.o2 M.o8 (fun p => pick3 [(0, 0), (2, 0), (1, 0)] [p] [.non] [.int (o : Int)]) (fun p => rfl) env
    have eg := fun mu => z_given (M.sm) hz (by omega) mu
    unfold F_w_fed_moments d_w_fed_moments
    simp [W_runBody, en, eg, -newG, -pick3]
    refine W_forL (I := fun xs s => ∃ (ys zs : List Rat) (o3 : Option SV), xs = ys.map gv ∧ zs ++ ys = qs ∧ noOwn o3 ∧ s = ⟨[some (.val (.lst (qs.map fr))), some (.val (.int (o : Int))), some (.val (.ptr mu.length)), o3], mu ++ [moO o zs]⟩) ⟨qs, [], none, rfl, rfl, trivial, rfl⟩ ?_ ?_
    · rintro x xs s ⟨ys, zs, o3, e, hq, n3, rfl⟩
      cases ys with
      | nil => cases e
      | cons y ys =>
        cases e
        have hy : Zd D B y := hz y (by rw [← hq]; simp)
        have hzs : ∀ q ∈ zs, Zd D B q := fun q hq' => hz q (by rw [← hq]; exact List.mem_append_left _ hq')
        have hlen : zs.length + 1 ≤ N := by
          have := congrArg List.length hq
          simp at this
          omega
        have hg : (mu ++ [moO o zs])[mu.length]? = some (moO o zs) := get_last
        have mf := m_feed (qs := [y]) (ps := [gv y]) M hzs (fun q hq' => by rw [List.mem_singleton.mp hq']; exact hy) (by simpa using hlen) (.cons (gv_is y) .nil) hg
        rw [show (mu ++ [moO o zs]).set mu.length (moO o (zs ++ [y])) = mu ++ [moO o (zs ++ [y])] by simp] at mf
        have bf := b_feed1 (s0 := some (.val (.lst (qs.map fr)))) (s1 := some (.val (.int (o : Int)))) (f := none) hg mf
        simp [bf]
        exact ⟨ys, rfl, zs ++ [y], by simpa using hq, some (.val (gv y)), trivial, rfl, rfl⟩
    · rintro s ⟨ys, zs, o3, e, hq, n3, rfl⟩
      cases ys with
      | cons y ys => cases e
      | nil =>
        rw [List.append_nil] at hq
        subst hq
        simp
  obtain ⟨v, t, e, rfl, rfl⟩ := q.out
  exact e
end
end PX
set_option maxHeartbeats 1000000
namespace PX
open PySem L3 LD PC PD
section
variable {D B N o E C k a : Nat} {qs : List Rat} {s f : Rat} {p : PV} {mu : List MO}
theorem flat_app {mu : List MO} {x : MO} (h : flatMs mu = true) (hx : flatM x = true) : flatMs (mu ++ [x]) = true := by
  unfold flatMs at h ⊢
  rw [List.all_append, h]
  simpa using hx
theorem ins_mo {q : List Rat} (h : mu[a]? = some (moO o q)) : L3.insN mu (.ptr a) = some (("Moments" : Str), moN, ([.str "moments", .int (q.length : Int), .int (o : Int), .tup ((sms o q).map .rat)] : List PV)) := by
  unfold moO moV at h
  simp [h]
theorem q_plus (hz : ∀ q ∈ qs, Zd 60 30 q) (hn : qs.length ≤ 7) (hs : Zd 60 30 s) (x0 x1 x3 x4 x5 x6 x7 x8 x9 x10 x11 : Option SV) : compL (gN 12) dYes e_w_moved_right_k38_1 [12] (qs.map fr) [] ⟨[x0, x1, some (.val (fr s)), x3, x4, x5, x6, x7, x8, x9, x10, x11, none], mu⟩ = .ok ((qs.map (· + s)).map fr) ⟨[x0, x1, some (.val (fr s)), x3, x4, x5, x6, x7, x8, x9, x10, x11, none], mu⟩ := by
  have sm : Sm 60 30 := ⟨by decide, by decide +kernel, by decide +kernel⟩
  have e := comp_eq (tg := gN 12) (te := e_w_moved_right_k38_1) (vs := [12]) (s := ⟨[x0, x1, some (.val (fr s)), x3, x4, x5, x6, x7, x8, x9, x10, x11, none], mu⟩) qs fr (fun q => fr (q + s)) (Nat.le_trans hn (by decide)) (fun q hq => by
    have := e_plus ((hz q hq).sm sm) (hs.sm sm) (by decide) mu
    generalize fr q = a at *
    generalize fr s = b at *
    simp [e_w_moved_right_k38_1, this, wipeE])
  rw [e, List.map_map]
  rfl
theorem q_times (hz : ∀ q ∈ qs, Zd 60 30 q) (hn : qs.length ≤ 7) (hf : Zd 60 30 f) (x0 x1 x2 x4 x5 x6 x7 x8 x9 x10 x11 : Option SV) : compL (gN 12) dYes e_w_moved_right_k38_2 [12] (qs.map fr) [] ⟨[x0, x1, x2, some (.val (fr f)), x4, x5, x6, x7, x8, x9, x10, x11, none], mu⟩ = .ok ((qs.map (· * f)).map fr) ⟨[x0, x1, x2, some (.val (fr f)), x4, x5, x6, x7, x8, x9, x10, x11, none], mu⟩ := by
  have sm : Sm 60 30 := ⟨by decide, by decide +kernel, by decide +kernel⟩
  have e := comp_eq (tg := gN 12) (te := e_w_moved_right_k38_2) (vs := [12]) (s := ⟨[x0, x1, x2, some (.val (fr f)), x4, x5, x6, x7, x8, x9, x10, x11, none], mu⟩) qs fr (fun q => fr (q * f)) (Nat.le_trans hn (by decide)) (fun q hq => by
    have := e_times ((hz q hq).sm sm) (hf.sm sm) (by decide) mu
    generalize fr q = a at *
    generalize fr f = b at *
    simp [e_w_moved_right_k38_2, this, wipeE])
  rw [e, List.map_map]
  rfl
theorem eqN_same {b : Nat} {xs : List Rat} (h1 : mu[a]? = some (moO o xs)) (h2 : mu[b]? = some (moO o xs)) (env : List (Option SV)) : gEqN ["Summary", "Moments"] [("Moments", F_Moments___eq__)] (gEq false) (.ptr a) (.ptr b) ⟨env, mu⟩ = .ok (.bl true) ⟨env, mu⟩ := by
  have s3 := e_mo_eq h1 h2
  unfold moO moV at h1 h2
  simp [gEqN, h1, h2, s3, show okT ["Summary", "Moments"] (.nam "Moments") = true from by kernel_rfl]
theorem em_fr (h8 : o ≤ 8) (st : L3.S) : gMul (.lst [.tup [.int 0, .int 1]]) (.int (o : Int)) st = .ok (.lst ((List.replicate o (0 : Rat)).map fr)) st := by
  have rep : ∀ o : Nat, (List.replicate o [PV.tup [.int 0, .int 1]]).flatten = (List.replicate o (0 : Rat)).map fr := by
    intro o
    induction o with
    | zero => rfl
    | succ o ih => rw [List.replicate_succ, List.flatten_cons, ih, List.replicate_succ, List.map_cons]; rfl
  have q : W (gMul (.lst [.tup [.int 0, .int 1]]) (.int (o : Int)) st) fun v t => v = .lst ((List.replicate o (0 : Rat)).map fr) ∧ t = st := by
    rw [W_mulL]
    refine ⟨⟨by omega, by omega, ?_⟩, ?_, rfl⟩
    · show 1 * (o : Int).toNat ≤ 16777216
      omega
    · rw [rep, Int.toNat_natCast]
  obtain ⟨v, t, e, rfl, rfl⟩ := q.out
  exact e
theorem sms_zero (o : Nat) (qs : List Rat) : sms o (qs.map (· * 0)) = List.replicate o 0 := by
  unfold sms
  refine List.ext_getElem (by simp) fun i h1 h2 => ?_
  simp only [List.getElem_map, List.getElem_range, List.getElem_replicate]
  rw [smo_scl, Rat.pow_succ, Rat.mul_zero, Rat.mul_zero]
theorem eq_zero (f : Rat) (st : L3.S) : gEq false (fr f) (.tup [.int 0, .int 1]) st = .ok (.bl (decide (f = 0))) st := by
  have q : W (gEq false (fr f) (fr 0) st) fun v t => v = .bl (decide (f = 0)) ∧ t = st := by simp [okD_fr, eqP_fr]
  obtain ⟨v, t, e, rfl, rfl⟩ := q.out
  exact e
theorem e_moved38 (h2 : 2 ≤ o) (h8 : o ≤ 8) (hz : ∀ q ∈ qs, Zd 60 30 q) (hn : qs.length ≤ 7) (hs : Zd 60 30 s) (hf : Zd 60 30 f) (hm : flatMs mu = true) :
    W (F_w_moved_right_k38 [.lst (qs.map fr), .int (o : Int), fr s, fr f] mu) fun v t => v = .bl true ∧ flatMs t = true := by
  have M := mzA h2 h8
  have MB := mzB h2 h8
  have MC := mzC h2 h8
  have hzB : ∀ q ∈ qs.map (· + s), Zd 60 60 q := fun q hq => by
    obtain ⟨x, hx, rfl⟩ := List.mem_map.mp hq
    exact (hz x hx).add (by decide) hs
  have hzC : ∀ q ∈ qs.map (· * f), Zd 3600 900 q := fun q hq => by
    obtain ⟨x, hx, rfl⟩ := List.mem_map.mp hq
    exact (hz x hx).mul hf
  have e0 := e_fed M hz hn mu
  have p0 := fun mu => e_lpowers M hz hn (i := (o : Int)) (by simp) (by omega) mu
  have pB := fun mu => e_lpowers MB hzB (by rw [List.length_map]; exact hn) (i := (o : Int)) (by simp) (by omega) mu
  have pC := fun mu => e_lpowers MC hzC (by rw [List.length_map]; exact hn) (i := (o : Int)) (by simp) (by omega) mu
  have eg : ∀ mu, F_w_given [.lst [fr s, fr f]] mu = .ok (.lst [gv s, gv f]) mu := fun mu => z_given (qs := [s, f]) M.sm (fun q hq => by
    simp only [List.mem_cons, List.not_mem_nil, or_false] at hq
    rcases hq with rfl | rfl
    · exact hs
    · exact hf) (by simp) mu
  have g0 : (mu ++ [moO o qs])[mu.length]? = some (moO o qs) := get_last
  have f1 : flatMs (mu ++ [moO o qs]) = true := flat_app hm (flat_moO _ _)
  generalize mu ++ [moO o qs] = M1 at *
  generalize mu.length = a0 at *
  have eu := e_mo_shifted (szA h2 h8) hz hn (gv_is s) hs g0
  have g1 : (M1 ++ [moO o (qs.map (· + s))])[a0]? = some (moO o qs) := get_app g0
  have u1 : (M1 ++ [moO o (qs.map (· + s))])[M1.length]? = some (moO o (qs.map (· + s))) := get_last
  have f2 : flatMs (M1 ++ [moO o (qs.map (· + s))]) = true := flat_app f1 (flat_moO _ _)
  generalize M1 ++ [moO o (qs.map (· + s))] = M2 at *
  generalize M1.length = a1 at *
  have ew := e_mo_scaled (szA h2 h8) hz hn (gv_is f) hf g1
  have g2 : (M2 ++ [moO o (qs.map (· * f))])[a0]? = some (moO o qs) := get_app g1
  have u2 : (M2 ++ [moO o (qs.map (· * f))])[a1]? = some (moO o (qs.map (· + s))) := get_app u1
  have w2 : (M2 ++ [moO o (qs.map (· * f))])[M2.length]? = some (moO o (qs.map (· * f))) := get_last
  have f3 : flatMs (M2 ++ [moO o (qs.map (· * f))]) = true := flat_app f2 (flat_moO _ _)
  generalize M2 ++ [moO o (qs.map (· * f))] = M3 at *
  generalize M2.length = a2 at *
  have eb := e_mo_shifted (szB h2 h8) hzB (by rw [List.length_map]; exact hn) (gv_is (-s)) hs.neg u2
  rw [show (qs.map (· + s)).map (· + -s) = qs from by
    rw [List.map_map]
    refine (List.map_congr_left fun x _ => ?_).trans (List.map_id _)
    show x + s + -s = id x
    rw [Rat.add_assoc, Rat.add_neg_cancel, Rat.add_zero]
    rfl] at eb
  have g3 : (M3 ++ [moO o qs])[a0]? = some (moO o qs) := get_app g2
  have w3 : (M3 ++ [moO o qs])[a2]? = some (moO o (qs.map (· * f))) := get_app w2
  have b3 : (M3 ++ [moO o qs])[M3.length]? = some (moO o qs) := get_last
  have f4 : flatMs (M3 ++ [moO o qs]) = true := flat_app f3 (flat_moO _ _)
  generalize M3 ++ [moO o qs] = M4 at *
  generalize M3.length = a3 at *
  have k1 := ins_mo g1
  have k0 := ins_mo g0
  have n1 : ¬ (("shifted" : Str) ∈ moN) := by decide +kernel
  have ns : ¬ (("scaled" : Str) ∈ moN) := by decide +kernel
  have q1 := fun mu x0 x1 x3 x4 x5 x6 x7 x8 x9 x10 x11 => q_plus (mu := mu) hz hn hs x0 x1 x3 x4 x5 x6 x7 x8 x9 x10 x11
  have q2 := fun mu x0 x1 x3 x4 x5 x6 x7 x8 x9 x10 x11 => q_times (mu := mu) hz hn hf x0 x1 x3 x4 x5 x6 x7 x8 x9 x10 x11
  unfold F_w_moved_right_k38 d_w_moved_right_k38
  simp [W_runBody, e0, p0, eg, k0, k1, n1, ns, eu, ew, q1, q2, pB, pC, wipeE, -insN_ptr, -List.map_map, -fPropN, -gEqN, -gEq]
  refine ⟨rfl, ?_⟩
  have kg := ins_mo g2
  have ku := ins_mo u2
  have kw := ins_mo w2
  have lB : (qs.map (· + s)).length = qs.length := List.length_map _
  have lC : (qs.map (· * f)).length = qs.length := List.length_map _
  have sg := e_mo_sums g2
  have su := e_mo_sums u2
  have sw := e_mo_sums w2
  have zu := e_mo_size u2
  have zw := e_mo_size w2
  have ou := e_mo_order u2
  have ow := e_mo_order w2
  have hl8 : ∀ qs : List Rat, (sms o qs).length ≤ 10000 := fun qs => by rw [sms_len]; exact Nat.le_trans h8 (by decide)
  have tg := fun mu => e_all_takenT (hl8 qs) mu
  have tu := fun mu => e_all_takenT (hl8 (qs.map (· + s))) mu
  have tw := fun mu => e_all_takenT (hl8 (qs.map (· * f))) mu
  have nn := fun st => ne_same (p := .lst [.lst ((sms o (qs.map (· + s))).map fr), .lst ((sms o (qs.map (· * f))).map fr)]) (by simp [okD, okDL, okDL_fr 5]) st
  rw [lB] at zu
  rw [lC] at zw
  have sm : Sm 60 30 := ⟨by decide, by decide +kernel, by decide +kernel⟩
  have n2 := fun st => ne_same (p := .lst [.int (qs.length : Int), .int (qs.length : Int)]) (by simp [okD, okDL]) st
  have n3 := fun st => ne_same (p := .lst [.int (o : Int), .int (o : Int)]) (by simp [okD, okDL]) st
  have n4 := fun st => ne_same (okD_frs (sms o qs)) st
  have em : ∀ mu, F_w_minus [.tup [.int 0, .int 1], fr s] mu = .ok (fr (-s)) mu := fun mu => by
    have := e_minus (x := 0) (y := s) (a := 10) ⟨by decide +kernel, by decide +kernel⟩ (hs.sm sm) (by decide) mu
    rw [show (0 : Rat) - s = -s by rw [Rat.sub_eq_add_neg, Rat.zero_add]] at this
    exact this
  have eg2 : ∀ mu, F_w_given [.lst [fr (-s)]] mu = .ok (.lst [gv (-s)]) mu := fun mu => z_given (qs := [-s]) sm (fun q hq => by rw [List.mem_singleton.mp hq]; exact hs.neg) (by simp) mu
  have e9 := fun env => eqN_same b3 g3 env
  have ez := eq_zero f
  have kb := ins_mo w3
  have sw3 := e_mo_sums w3
  by_cases h0 : f = 0
  · generalize gEqN ["Summary", "Moments"] [("Moments", F_Moments___eq__)] (gEq false) = gq at *
    have er := em_fr h8
    rw [h0, sms_zero] at sw3
    have tr := fun mu => e_all_takenT (qs := List.replicate o 0) (by rw [List.length_replicate]; exact Nat.le_trans h8 (by decide)) mu
    have q5 := fun st => gEq_self (s := st) false (okD_frs (List.replicate o 0))
    have ez1 : ∀ st, gEq false (fr f) (.tup [.int 0, .int 1]) st = .ok (.bl true) st := fun st => by rw [eq_zero, decide_eq_true h0]
    have ml1 : ∀ st, gMul (.lst [.int (qs.length : Int)]) (.int 2) st = .ok (.lst [.int (qs.length : Int), .int (qs.length : Int)]) st := fun st => rfl
    have ml2 : ∀ st, gMul (.lst [.int (o : Int)]) (.int 2) st = .ok (.lst [.int (o : Int), .int (o : Int)]) st := fun st => rfl
    simp [froz1, kg, ku, kw, sg, su, sw, zu, zw, ou, ow, tg, tu, tw, nn, n1, ns, f3, f4, n2, n3, n4, em, eg2, eb, e9, ez1, ml1, ml2, kb, er, sw3, tr, q5, -insN_ptr, -List.map_map, -gEq, -gMul, -List.map_replicate]
    refine ⟨⟨by omega, by omega⟩, ?_⟩
    rw [show List.replicate o (PV.tup [.int 0, .int 1]) = (List.replicate o (0 : Rat)).map fr from by rw [List.map_replicate]; rfl]
    simp [q5, f4, -gEq, -List.map_replicate]
  · obtain ⟨E, hE0, hE, hi⟩ := inv_zd hf h0
    have hnum : f.num ≠ 0 := fun z => h0 (Rat.num_eq_zero.mp z)
    have zi : Zb (1 / f) 3990 := by
      refine hi.zb hE0 (Nat.le_trans (Nat.mul_le_mul_left _ hE) (by decide +kernel)) (Nat.le_trans hE (by decide +kernel))
    have et : ∀ mu, F_w_through [.tup [.int 1, .int 1], fr f] mu = .ok (fr (1 / f)) mu := fun mu => e_through (x := 1) (y := f) (a := 10) ⟨by decide +kernel, by decide +kernel⟩ (hf.sm sm) hnum (by decide) mu
    have eg3 : ∀ mu, F_w_given [.lst [fr (1 / f)]] mu = .ok (.lst [gv (1 / f)]) mu := fun mu => e_given [1 / f] (fun q hq => by rw [List.mem_singleton.mp hq]; exact zi) (by decide) (by simp) mu
    have ew2 := e_mo_scaled (szC h2 h8 hE0 hE) hzC (by rw [List.length_map]; exact hn) (gv_is (1 / f)) hi w3
    rw [show (qs.map (· * f)).map (· * (1 / f)) = qs from by
      rw [List.map_map]
      refine (List.map_congr_left fun x _ => ?_).trans (List.map_id _)
      show x * f * (1 / f) = id x
      rw [Rat.mul_assoc, Rat.div_def, Rat.one_mul, Rat.mul_inv_cancel _ h0, Rat.mul_one]
      rfl] at ew2
    have g4 : (M4 ++ [moO o qs])[a0]? = some (moO o qs) := get_app g3
    have b4 : (M4 ++ [moO o qs])[M4.length]? = some (moO o qs) := get_last
    have f5 : flatMs (M4 ++ [moO o qs]) = true := flat_app f4 (flat_moO _ _)
    generalize M4 ++ [moO o qs] = M5 at *
    generalize M4.length = a4 at *
    have e10 := fun env => eqN_same b4 g4 env
    generalize gEqN ["Summary", "Moments"] [("Moments", F_Moments___eq__)] (gEq false) = gq at *
    simp [froz1, kg, ku, kw, sg, su, sw, zu, zw, ou, ow, tg, tu, tw, nn, n1, ns, f3, f4, f5, n2, n3, n4, em, eg2, eb, e9, ez, kb, h0, et, eg3, ew2, e10, -insN_ptr, -List.map_map, -gEq, -List.map_replicate]
end
end PX
set_option maxHeartbeats 1000000
namespace PX
open PySem L3 LD PC PD
section
variable {D B N o E C k a : Nat} {qs : List Rat} {s f : Rat} {p : PV} {mu : List MO}
theorem b_apart {M : List MO} {a0 p : Nat} (h2 : 2 ≤ o) (h8 : o ≤ 8) (hz : ∀ q ∈ qs, Zd 60 30 q) (hn : qs.length ≤ 6) (hne : p ≠ a0) (h0 : M[a0]? = some (moO o qs)) (hp : M[p]? = some (moO o qs)) :
    b_w_apart_right_1 ⟨[some (.val (.lst (qs.map fr))), some (.val (.int (o : Int))), some (.val (.ptr p)), some (.val (.ptr a0)), some (.val (.lst ((sms o qs).map fr)))], M⟩ = .ok .nx ⟨[some (.val (.lst (qs.map fr))), some (.val (.int (o : Int))), some (.val (.ptr p)), some (.val (.ptr a0)), some (.val (.lst ((sms o qs).map fr)))], M.set p (moO o (qs ++ [7]))⟩ := by
  have M7 := mzA h2 h8
  have mf := m_feed (qs := [7]) (ps := [.int 7]) M7 hz (fun q hq => by rw [List.mem_singleton.mp hq]; exact ⟨by decide +kernel, by decide +kernel⟩) (by simp; omega) (.cons (.inr ⟨rfl, rfl⟩) .nil) hp
  have k := ins_mo hp
  have g0 : (M.set p (moO o (qs ++ [7])))[a0]? = some (moO o qs) := by rw [List.getElem?_set_ne hne]; exact h0
  have gp : (M.set p (moO o (qs ++ [7])))[p]? = some (moO o (qs ++ [7])) := get_set hp
  have l7 : (((qs ++ [7]).length : Nat) : Int) = (qs.length : Int) + 1 := by simp
  generalize M.set p (moO o (qs ++ [7])) = M' at *
  have k0 := ins_mo g0
  have kp := ins_mo gp
  have z0 := e_mo_size g0
  have zp := e_mo_size gp
  have s0 := e_mo_sums g0
  rw [l7] at zp
  have tg := fun mu => e_all_takenT (qs := sms o qs) (by rw [sms_len]; exact Nat.le_trans h8 (by decide)) mu
  have nm : ¬ (("feed" : Str) ∈ moN) := by decide +kernel
  have n1 := fun (i : Int) st => ne_same (p := .int i) (by simp [okD]) st
  have n4 := fun st => ne_same (okD_frs (sms o qs)) st
  unfold b_w_apart_right_1
  have mf := mf [some (.val (.lst (qs.map fr))), some (.val (.int (o : Int))), some (.val (.ptr p)), some (.val (.ptr a0)), some (.val (.lst ((sms o qs).map fr)))]
  generalize fMtS 1 F_Moments_feed = g at *
  generalize (o : Int) = oi at *
  have e1 : dExpr (dMethN "feed" [("Moments", g)] (dVar 2) (dCons (dC (.int 7)) dNil)) ⟨[some (.val (.lst (qs.map fr))), some (.val (.int oi)), some (.val (.ptr p)), some (.val (.ptr a0)), some (.val (.lst ((sms o qs).map fr)))], M⟩ = .ok .nx ⟨[some (.val (.lst (qs.map fr))), some (.val (.int oi)), some (.val (.ptr p)), some (.val (.ptr a0)), some (.val (.lst ((sms o qs).map fr)))], M'⟩ := by
    simp [k, nm, mf, -insN_ptr]
  rw [seq_nx e1]
  have hlen : (qs.map fr).length = qs.length := List.length_map _
  generalize hL : qs.map fr = L at *
  generalize (sms o qs).map fr = L2 at *
  simp [k0, kp, z0, zp, s0, tg, n1, n4, hlen, -insN_ptr, -gEq]
theorem e_apart (h2 : 2 ≤ o) (h8 : o ≤ 8) (hz : ∀ q ∈ qs, Zd 60 30 q) (hn : qs.length ≤ 6) (hm : flatMs mu = true) :
    W (F_w_apart_right [.lst (qs.map fr), .int (o : Int)] mu) fun v t => v = .bl true ∧ flatMs t = true := by
  have M := mzA h2 h8
  have hn7 : qs.length ≤ 7 := by omega
  have e0 := e_fed M hz hn7 mu
  have p0 := fun mu => e_lpowers M hz hn7 (i := (o : Int)) (by simp) (by omega) mu
  have g0 : (mu ++ [moO o qs])[mu.length]? = some (moO o qs) := get_last
  have f1 : flatMs (mu ++ [moO o qs]) = true := flat_app hm (flat_moO _ _)
  have i0 : (mu ++ [moO o qs]).length = mu.length + 1 := by simp
  generalize mu ++ [moO o qs] = M1 at *
  generalize mu.length = a0 at *
  have eu := e_mo_shifted (szA h2 h8) hz hn7 (p := .int 0) (.inr ⟨rfl, rfl⟩) (b := 0) ⟨by decide +kernel, by decide +kernel⟩ g0
  rw [show qs.map (· + (0 : Rat)) = qs from (List.map_congr_left fun x _ => Rat.add_zero x).trans (List.map_id _)] at eu
  have g1 : (M1 ++ [moO o qs])[a0]? = some (moO o qs) := get_app g0
  have u1 : (M1 ++ [moO o qs])[M1.length]? = some (moO o qs) := get_last
  have f2 : flatMs (M1 ++ [moO o qs]) = true := flat_app f1 (flat_moO _ _)
  have i1 : (M1 ++ [moO o qs]).length = M1.length + 1 := by simp
  generalize M1 ++ [moO o qs] = M2 at *
  rw [i0] at eu u1 i1
  have ew := e_mo_scaled (szA h2 h8) hz hn7 (p := .int 1) (.inr ⟨rfl, rfl⟩) (b := 1) ⟨by decide +kernel, by decide +kernel⟩ g1
  rw [show qs.map (· * (1 : Rat)) = qs from (List.map_congr_left fun x _ => Rat.mul_one x).trans (List.map_id _)] at ew
  have g2 : (M2 ++ [moO o qs])[a0]? = some (moO o qs) := get_app g1
  have u2 : (M2 ++ [moO o qs])[a0 + 1]? = some (moO o qs) := get_app u1
  have w2 : (M2 ++ [moO o qs])[M2.length]? = some (moO o qs) := get_last
  have f3 : flatMs (M2 ++ [moO o qs]) = true := flat_app f2 (flat_moO _ _)
  have i2 : (M2 ++ [moO o qs]).length = M2.length + 1 := by simp
  generalize M2 ++ [moO o qs] = M3 at *
  rw [i1] at ew w2 i2
  have ec := e_mo_copied h2 h8 g2
  have g3 : (M3 ++ [moO o qs])[a0]? = some (moO o qs) := get_app g2
  have u3 : (M3 ++ [moO o qs])[a0 + 1]? = some (moO o qs) := get_app u2
  have w3 : (M3 ++ [moO o qs])[a0 + 1 + 1]? = some (moO o qs) := get_app w2
  have c3 : (M3 ++ [moO o qs])[M3.length]? = some (moO o qs) := get_last
  have f4 : flatMs (M3 ++ [moO o qs]) = true := flat_app f3 (flat_moO _ _)
  generalize M3 ++ [moO o qs] = M4 at *
  rw [i2] at ec c3
  have k0 := ins_mo g0
  have k1 := ins_mo g1
  have k2 := ins_mo g2
  have n1 : ¬ (("shifted" : Str) ∈ moN) := by decide +kernel
  have n2 : ¬ (("scaled" : Str) ∈ moN) := by decide +kernel
  have n3 : ¬ (("copied" : Str) ∈ moN) := by decide +kernel
  unfold F_w_apart_right d_w_apart_right
  simp [W_runBody, e0, p0, k0, k1, k2, n1, n2, n3, eu, ew, ec, -insN_ptr]
  refine W_forL (I := fun xs s => ∃ (ps : List Nat) (o2 : Option SV) (M : List MO), xs = ps.map .ptr ∧ noOwn o2 ∧ ps.Nodup ∧ (∀ p ∈ ps, p ≠ a0) ∧ M[a0]? = some (moO o qs) ∧ (∀ p ∈ ps, M[p]? = some (moO o qs)) ∧ flatMs M = true ∧ s = ⟨[some (.val (.lst (qs.map fr))), some (.val (.int (o : Int))), o2, some (.val (.ptr a0)), some (.val (.lst ((sms o qs).map fr)))], M⟩)
    ⟨[a0 + 1, a0 + 1 + 1, a0 + 1 + 1 + 1], none, M4, rfl, trivial, by simp, by simp; omega, g3, ?_, f4, rfl⟩ ?_ ?_
  · intro p hp
    simp only [List.mem_cons, List.not_mem_nil, or_false] at hp
    rcases hp with rfl | rfl | rfl
    · exact u3
    · exact w3
    · exact c3
  · rintro x xs s ⟨ps, o2, M, e, _, hnd, hne, h0, hp, hf, rfl⟩
    cases ps with
    | nil => cases e
    | cons p ps =>
      cases e
      have hnd2 := List.nodup_cons.mp hnd
      have hb := b_apart h2 h8 hz hn (hne p List.mem_cons_self) h0 (hp p List.mem_cons_self)
      simp [hb]
      refine ⟨ps, rfl, some (.val (.ptr p)), trivial, hnd2.2, fun q hq => hne q (List.mem_cons_of_mem _ hq), M.set p (moO o (qs ++ [7])), ?_, fun q hq => ?_, flat_set hf (flat_moO _ _), rfl, rfl⟩
      · rw [List.getElem?_set_ne (hne p List.mem_cons_self)]; exact h0
      · rw [List.getElem?_set_ne (fun z => hnd2.1 (by rw [z]; exact hq))]; exact hp q (List.mem_cons_of_mem _ hq)
  · rintro s ⟨ps, o2, M, e, _, hnd, hne, h0, hp, hf, rfl⟩
    simp [hf]
end
end PX
set_option maxHeartbeats 1000000
namespace PX
open PySem L3 LD PC PD
section
variable {D B N o E C k a : Nat} {qs : List Rat} {s f : Rat} {p : PV} {mu : List MO}
theorem turn38 {ns : List Int} {i : Nat} {o2 o3 o4 : Option SV} (hi : i ≤ 4) (hf : flatMs mu = true) :
    W (b_law_k38_1 ⟨[some (.val (.frz (ns.map .int))), some (.val (.int (i : Int))), o2, o3, o4], mu⟩) fun f s' => f = .nx ∧ ∃ v2 v3 v4 mu', flatMs mu' = true ∧ s' = ⟨[some (.val (.frz (ns.map .int))), some (.val (.int (i : Int))), some (.val v2), some (.val v3), some (.val v4)], mu'⟩ := by
  unfold b_law_k38_1
  simp
  refine w_source (by omega) hf fun m1 h1 => ?_
  simp
  refine w_next h1 (by omega) (by decide) (by decide) fun r m2 a1 a2 h2 => ?_
  obtain ⟨o, ho⟩ : ∃ o : Nat, 2 + r = ((o : Nat) : Int) := ⟨(2 + r).toNat, by omega⟩
  have e6 : ∀ st, gAdd (.int 2) (.int r) st = .ok (.int (o : Int)) st := fun st => by simp [ho]
  have o2 : 2 ≤ o := by omega
  have h8 : o ≤ 8 := by omega
  simp [e6, -gAdd]
  refine w_row (m := 6) h2 (by omega) (by decide) fun qs m3 hz hl h3 => ?_
  simp
  refine PD.w_drawn h3 (by omega) fun s m4 hs h4 => ?_
  simp
  refine PD.w_drawn h4 (by omega) fun f m5 hfz h5 => ?_
  simp
  refine (e_moved38 o2 h8 hz (by omega) hs hfz h5.flat).mono fun v t hh => ?_
  obtain ⟨rfl, ft⟩ := hh
  simp
  have z0 : Zd 60 30 (0 : Rat) := ⟨by decide +kernel, by decide +kernel⟩
  have z1 : Zd 60 30 (1 : Rat) := ⟨by decide +kernel, by decide +kernel⟩
  refine (show W (F_w_moved_right_k38 [.lst (qs.map fr), .int (o : Int), fr 0, fr 1] t) _ from (e_moved38 o2 h8 hz (by omega) z0 z1 ft).mono fun v t hh => ?_)
  obtain ⟨rfl, ft⟩ := hh
  simp
  refine (e_apart o2 h8 hz hl ft).mono fun v t hh => ?_
  obtain ⟨rfl, ft⟩ := hh
  simp [ft]
theorem law_k38 (ns : List Int) (hn : ns.length ≤ 63) : ∃ mu', F_law_k38 [.frz (ns.map .int)] [] = .ok (.bl true) mu' := by
  have h : W (F_law_k38 [.frz (ns.map .int)] []) (fun v _ => v = .bl true) := by
    unfold F_law_k38 d_law_k38
    simp [W_runBody]
    refine ⟨⟨by omega, by omega⟩, ?_⟩
    refine turnsN (by omega) (fun r => ∃ o2 o3 o4, r = [o2, o3, o4] ∧ noOwn o2 ∧ noOwn o3 ∧ noOwn o4) ⟨none, none, none, rfl, trivial, trivial, trivial⟩ rfl ?_ trivial ?_
    · rintro i rest mu hi ⟨o2, o3, o4, rfl, n2, n3, n4⟩ hf
      refine (turn38 hi hf).mono fun f s' hh => ?_
      obtain ⟨rfl, v2, v3, v4, mu', hf', rfl⟩ := hh
      exact ⟨rfl, _, mu', ⟨some (.val v2), some (.val v3), some (.val v4), rfl, trivial, trivial, trivial⟩, hf', rfl⟩
    · rintro o1 rest mu n1 ⟨o2, o3, o4, rfl, n2, n3, n4⟩ hf
      simp
      have zs : ∀ q ∈ [(1 : Rat), 2, 6], Zd 60 30 q := fun q hq => by
        simp only [List.mem_cons, List.not_mem_nil, or_false] at hq
        rcases hq with rfl | rfl | rfl <;> exact ⟨by decide +kernel, by decide +kernel⟩
      refine (show W (F_w_moved_right_k38 [.lst ([(1 : Rat), 2, 6].map fr), .int ((3 : Nat) : Int), fr 1, fr 2] mu) _ from (e_moved38 (by decide) (by decide) zs (by decide) ⟨by decide +kernel, by decide +kernel⟩ ⟨by decide +kernel, by decide +kernel⟩ hf).mono fun v t hh => ?_)
      obtain ⟨rfl, ft⟩ := hh
      simp
      have zs : ∀ q ∈ [Rat.divInt 1 2], Zd 60 30 q := fun q hq => by
        rw [List.mem_singleton.mp hq]
        exact ⟨by decide +kernel, by decide +kernel⟩
      refine (show W (F_w_moved_right_k38 [.lst ([Rat.divInt 1 2].map fr), .int ((8 : Nat) : Int), fr 3, fr 0] t) _ from (e_moved38 (by decide) (by decide) zs (by decide) ⟨by decide +kernel, by decide +kernel⟩ ⟨by decide +kernel, by decide +kernel⟩ ft).mono fun v t hh => ?_)
      obtain ⟨rfl, ft⟩ := hh
      simp
  obtain ⟨v, mu', e, rfl⟩ := h.out
  exact ⟨mu', e⟩
end
end PX
open PySem PySem.W PySem.Calls PyProof.Rows
theorem PySem.Challenge.cw_exactstats_k38_shifted_and_scaled_holds : PySem.Challenge.rw_exactstats_k38_shifted_and_scaled.Holds := by
  w_on; o_law
  refine L3.head_cut (r := OpenLaw.row PySem.Challenge.rw_exactstats_k38_shifted_and_scaled) (q := view (OpenLaw.row PySem.Challenge.rw_exactstats_k38_shifted_and_scaled).prog [57]) (H := Gk38.hk) (loose := Gk38.loose) (d := HandSHeadRun.topDef (OpenLaw.row PySem.Challenge.rw_exactstats_k38_shifted_and_scaled).prog 57) (kwd := [])
    (by kernel_rfl) (fun s => by kernel_rfl) Gk38.S Gk38.run Gk38.k1 Gk38.k2 Gk38.k3 (by kernel_rfl) (by kernel_rfl) (by kernel_rfl) (by rfl) (by first | assumption | decide +kernel) (by decide +kernel) ⟨rfl, rfl, rfl, rfl, rfl, by decide +kernel⟩ ?hw ?hc
  case hw => w_witness2
  case hc =>
    refine L3.walkGT (names := []) (l := PySem.Challenge.rw_exactstats_k38_shifted_and_scaled) (n := 63) (k := 12) (x := "_law_script") (CX := L2.CX0) rfl (by decide) (by kernel_rfl) ⟨rfl, by decide, by decide⟩ ?F (fun _ _ _ _ z => z)
    intro w mg fa h Y G hmg0
    obtain ⟨K, KX, c, T⟩ := Y
    have hmg : mg ("law" : PySem.Str) = some (.ref fa) := by
      have e : (HandSHeadRun.topDef (OpenLaw.row PySem.Challenge.rw_exactstats_k38_shifted_and_scaled).prog 57).name = ("law" : PySem.Str) := by kernel_rfl
      rw [← e]
      exact hmg0
    obtain ⟨hl, fd, hb, hF⟩ := Gk38.facts (P := (PySem.Challenge.rw_exactstats_k38_shifted_and_scaled).prog) (w := w) KX G c ⟨by kernel_rfl, by kernel_rfl⟩
    have ee := hmg.symm.trans hl
    cases ee
    exact ⟨K, fd, (fun vs H Q _ => L3.spJ K (He.ga K "Ratio") 1 LD.F_law_k38 vs H Q fun _ _ _ => False), KX, T, hb, fun H a ns hn hT hS => L3.law_sp (n := 63) (fun ns h => PX.law_k38 ns h) H a ns hn (by rw [T.tk]; exact hT) hS, fun base _ _ tb => L3.FnG.mono (L3.calm_of (hF base )) (by decide)⟩
