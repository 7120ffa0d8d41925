import PyProof.Rows.All
import HandS.ExcInit
import HandS.ExcOwn
import KE.KExcInit
import KE.KTryMore
import PyProof.ExcBaseAll.ArithmeticError
import PyProof.ExcBaseAll.LookupError
import PyProof.ExcBaseAll.ValueError
import Wide.All
import OpenK.AllK
import Wide.FinOn
import KE.KStateDown
import Lean
import HandS.ForMost
import HandS.ForExc
import HandS.Wide
import HandS.Defaults
import HandS.Property
import HandS.OwnEq
import HandS.Head0
import HandS.Head1
import HandS.Head2
import HandS.HeadEnd
import HandS.HeadHook1
import HandS.HeadHook2
import HandS.HeadNt
import KE.KNestM
import HandS.Lambda
import HandS.TupAny
import HandS.TupMul
import HandS.IsInst
import HandS.Zip
import HandS.CallSlots
import HandS.ClsMeth
import KE.KOpsOwn
import PyProof.FactsAll.int_1
import PyProof.Draws
import HandS.Zip0
import HandS.Style
import PyProof.EqAt
import PyProof.NeKinds
import PyProof.InstNe
import HandS.SortInts
import HandS.Deep
import PyProof.SumWalk
import HandS.Ends
import PyProof.ReprRoads
import HandS.RaiseMore
import HandS.Dict
import HandS.Text
import HandS.NoneIn
import HandS.Conv
import HandS.Iter
import HandS.SortRule
import HandS.SetKeys
import KE.KExcIs
import HandS.Star
import KE.KDflt
import HandS.FStr
import HandS.DeepEq
import PySem.Challenge.RW_exactstats_k30_middle_lines
set_option Elab.async false
set_option linter.all false
set_option maxRecDepth 100000
set_option maxHeartbeats 0
namespace L3
open PySem PySem.Spec PyProof.Rows L2
/-- K may end with a row that no look-up meets: the names of defs that make lambdas -/
def TK (K : PySem.W.Frag) : List Str := match K.getLast? with
  | some (_, ⟨.none, none, .fields vs, _⟩) => vs.toList.filterMap fun v => match v with
    | .str x _ => some x
    | _ => none
  | _ => []
/-- a def's code object, its table of code objects -/
def cdA (K : PySem.W.Frag) (x : Str) : Addr := match K.lookup (He.ga K x) with
  | some ⟨_, _, .func fd, _⟩ => (match fd.code with
    | .ref c => c
    | _ => 0)
  | _ => 0
def tA (K : PySem.W.Frag) (x : Str) : Addr := match K.lookup (cdA K x) with
  | some ⟨_, _, .fields vs, _⟩ => (match vs.getD 11 .none with
    | .ref P => P
    | _ => 0)
  | _ => 0
def clsBody : Stmt → List Stmt
  | .ClassDef _ _ _ body _ _ _ _ _ _ _ => body
  | _ => []
def eqB (a b : Option Bool) : Bool := decide (a = b)
def isiB (K : PySem.W.Frag) (CR : Addr) : Bool :=
  eqB (PySem.W.kitOne K (.ref CR) (.type "int")) (some false) && (eqB (PySem.W.kitOne K (.ref CR) (.type "bool")) (some false) && (eqB (PySem.W.kitOne K (.ref CR) (.type "str")) (some false) && (eqB (PySem.W.kitOne K (.ref CR) (.type "tuple")) (some false) && (eqB (PySem.W.kitOne K (.ref CR) (.type "list")) (some false) &&
  (eqB (PySem.W.kitOne K (.ref CR) (.ref CR)) (some true) && (["NoneType", "bool", "int", "str", "tuple", "list", "dict"].all fun t => eqB (PySem.W.kitOne K (.type t) (.ref CR)) (some false)))))))
def clsIB (K : PySem.W.Frag) (C : Addr) : Bool := He.eqO (PySem.W.findIn K (.ref C) "__class__") (some (some (.builtin "object.__class__"))) && eqB (PySem.W.mroIn K C (.type "object")) (some true)
def kisiB (K : PySem.W.Frag) : Bool := He.eqO (PySem.W.specialIn K (.builtin "object.__class__") "__get__") (some (some (.builtin "getset_descriptor.__get__"))) && eqB (PySem.W.takesIn K (.builtin "object.__class__")) (some true)
structure DefX where
  ad : PySem.W.Frag → Addr
  name : Str
  qual : Str
  params : Arguments
  body : List Stmt
  scope : Scope
  dfl : List He.Dv := []
  kwd : List (Str × He.Dv) := []
def DefX.val (d : DefX) : He.FnW := some (d.name, d.qual, d.params, .stmts d.body, d.scope, mainGlobals, [], builtinsNs)
def fnX (K : PySem.W.Frag) (a : Addr) : He.FnW := match K.lookup a with
  | some ⟨_, _, .func fd, _⟩ => some (fd.name, fd.qualname, fd.params, fd.body, fd.scope, fd.globals, fd.closure, fd.builtins)
  | _ => none
def DefX.dvs (K : PySem.W.Frag) (d : DefX) : List V := d.dfl.map (He.Dv.v K)
def DefX.kws (K : PySem.W.Frag) (d : DefX) : List (Str × V) := d.kwd.map fun q => (q.1, q.2.v K)
def DefX.ok (K : PySem.W.Frag) (d : DefX) : Bool := PySem.W.keepIn K (.ref (d.ad K)) && (match K.lookup (d.ad K) with
  | some ⟨_, _, .func fd, _⟩ => PySem.W.codeIn K fd.code d.qual && (He.dflB K fd.defaults (d.dvs K) && He.kwdB K fd.kwdefaults (d.kws K))
  | _ => false)
abbrev AlX : Type := Bool × List He.FnW
def obsX (fa : List He.Fa) (xs : List (PySem.W.Frag → Bool)) (fn : List DefX) (K : PySem.W.Frag) : AlX := ((fa.all fun f => f.ok K) && ((xs.all fun x => x K) && fn.all fun d => d.ok K), fn.map fun d => fnX K (d.ad K))
def valX (fn : List DefX) : AlX := (true, fn.map DefX.val)
def SaysX (fa : List He.Fa) (xs : List (PySem.W.Frag → Bool)) (fn : List DefX) (K : PySem.W.Frag) : Prop := obsX fa xs fn K = valX fn
def getAd (m : Str) (K : PySem.W.Frag) : Addr := match PySem.W.recIn K (He.ma K (He.ga K "Ratio") m) "property" with
  | some (.ref f :: _) => f
  | _ => 0
def propB (m : Str) (K : PySem.W.Frag) : Bool := He.eqO (PySem.W.findIn K (.ref (He.ga K "Ratio")) m) (some (some (.ref (He.ma K (He.ga K "Ratio") m)))) && (He.eqO (PySem.W.specialIn K (.ref (He.ma K (He.ga K "Ratio") m)) "__get__") (some (some (.builtin "property.__get__"))) &&
  (eqB (PySem.W.takesIn K (.ref (He.ma K (He.ga K "Ratio") m))) (some true) && (match PySem.W.recIn K (He.ma K (He.ga K "Ratio") m) "property" with
    | some (.ref _ :: _) => true
    | _ => false)))
def rfO : Option (Option Value) → Bool
  | some none => true
  | some (some (.ref _)) => true
  | _ => false
def binB (nm : String) (K : PySem.W.Frag) : Bool := PySem.W.selfFirst K (He.ga K "Ratio") && (He.eqO (PySem.W.findIn K (.ref (He.ga K "Ratio")) (PySem.dunder nm)) (some (some (.ref (He.ma K (He.ga K "Ratio") (PySem.dunder nm))))) &&
  (PySem.W.isFn K (.ref (He.ma K (He.ga K "Ratio") (PySem.dunder nm))) && (rfO (PySem.W.findIn K (.ref (He.ga K "Ratio")) (dunderR nm)) && ((PySem.W.findIn K (.type "int") (PySem.dunder nm)).isSome && ((PySem.W.findIn K (.type "int") (dunderR nm)).isSome && eqB (PySem.W.subIn K (.type "int") (.ref (He.ga K "Ratio"))) (some false))))))
def unB (nm : Str) (K : PySem.W.Frag) : Bool := He.eqO (PySem.W.findIn K (.ref (He.ga K "Ratio")) nm) (some (some (.ref (He.ma K (He.ga K "Ratio") nm)))) && PySem.W.isFn K (.ref (He.ma K (He.ga K "Ratio") nm))
def cmpB (K : PySem.W.Frag) : Bool := (He.eqO (PySem.W.findIn K (.ref (He.ga K "Ratio")) "__ne__") (some (some (.builtin "object.__ne__"))) && eqB (PySem.W.mroIn K (He.ga K "Ratio") (.type "object")) (some true)) && (unB "__eq__" K &&
  (PySem.W.notFirst K (He.ga K "Ratio") (.ref (He.ga K "Ratio")) && (["int", "bool", "str", "NoneType"].all fun t => PySem.W.notFirst K (He.ga K "Ratio") (.type t))))
inductive EB where
  | ve | le | ae
def EB.B : EB → String
  | .ve => "ValueError" | .le => "LookupError" | .ae => "ArithmeticError"
def EB.bm (b : EB) : List Value := [.type b.B, .type "Exception", .type "BaseException", .type "object"]
def EB.nw : EB → String
  | .ve => "ValueError.__new__" | .le => "LookupError.__new__" | .ae => "ArithmeticError.__new__"
def EB.it : EB → String
  | .ve => "ValueError.__init__" | .le => "LookupError.__init__" | .ae => "ArithmeticError.__init__"
def efB (K : PySem.W.Frag) (C : Addr) (f : Str) : Bool := He.eqO (PySem.W.findIn K (.ref C) "__getattribute__") (some (some (.builtin "BaseException.__getattribute__"))) && (He.eqO (PySem.W.findIn K (.ref C) "__getattr__") (some none) &&
  (He.eqO (PySem.W.findIn K (.ref C) f) (some none) && (eqB (PySem.W.subIn K (.ref C) (.type "BaseException")) (some true) && PySem.W.hasDictIn K C)))
def oxB (b : EB) (c f : Str) (K : PySem.W.Frag) : Bool :=
  PySem.W.excInitIn K (He.ga K c) b.bm b.nw && (PySem.W.excOver K (He.ga K c) b.bm && (PySem.W.hasDictIn K (He.ga K c) && (He.eqO (PySem.W.findIn K (.ref (He.ga K c)) "__setattr__") (some (some (.builtin "object.__setattr__"))) &&
  (eqB (PySem.W.subIn K (.ref (He.ga K c)) (.type "BaseException")) (some true) && (decide (PySem.W.typeIn K (.ref (He.ga K c)) = some (.type "type")) && (PySem.W.keepIn K (.ref (He.ga K c)) &&
  (He.eqO (PySem.W.findIn K (.ref (He.ga K c)) "__init__") (some (some (.ref (He.ma K (He.ga K c) "__init__")))) && (PySem.W.isFn K (.ref (He.ma K (He.ga K c) "__init__")) && He.eqO (PySem.W.takerIn K (He.ga K c) f) (some none)))))))))
def ex0B (b : EB) (c : Str) (K : PySem.W.Frag) : Bool :=
  PySem.W.excIn K (He.ga K c) b.bm b.nw && (PySem.W.keepIn K (.ref (He.ga K c)) && (eqB (PySem.W.subIn K (.ref (He.ga K c)) (.type "BaseException")) (some true) && decide (PySem.W.typeIn K (.ref (He.ga K c)) = some (.type "type"))))
def hefB (cs : List Str) (f : Str) (K : PySem.W.Frag) : Bool := cs.all fun c => efB K (He.ga K c) f
def htB (ns yes : List Str) (K : PySem.W.Frag) : Bool := yes.all fun c => eqB (PySem.W.exmAny K (.ref (He.ga K c)) (ns.map fun n => .ref (He.ga K n))) (some true)
end L3
namespace L3
open PySem PySem.Spec PyProof.Rows L2
def tbB : Obj → Bool
  | ⟨.none, none, .fields ws, zs⟩ => decide (ws.size = 0 ∧ zs.size = 0)
  | _ => false
theorem tbB_eq {o : Obj} (h : tbB o = true) : o = { cls := .none, data := .fields #[] } := by
  obtain ⟨c1, d1, d2, sl⟩ := o
  cases c1 with
  | none =>
    cases d1 with
    | none =>
      cases d2 with
      | fields ws =>
        obtain ⟨h1, h2⟩ := of_decide_eq_true (show decide (ws.size = 0 ∧ sl.size = 0) = true from h)
        rw [Array.eq_empty_of_size_eq_zero h1, Array.eq_empty_of_size_eq_zero h2]
      | _ => cases h
    | some d => cases d2 <;> cases h
  | _ => cases d1 <;> cases d2 <;> cases h
def mkT (names : List Str) : Addr × Obj := (mainGlobals, ⟨.none, none, .fields (names.map fun x => Value.str x 0).toArray, #[]⟩)
theorem lookup_app {α : Type} {a : Addr} {m : Addr × α} : ∀ {l : List (Addr × α)} {o : α}, (l ++ [m]).lookup a = some o → l.lookup a = some o ∨ (l.lookup a = none ∧ a = m.1)
  | [], o, h => by
    obtain ⟨b, x⟩ := m
    rw [List.nil_append, List.lookup_cons] at h
    cases q : (a == b) with
    | true => exact .inr ⟨rfl, eq_of_beq q⟩
    | false => rw [q] at h; cases h
  | (b, x) :: r, o, h => by
    rw [List.cons_append, List.lookup_cons] at h
    rw [List.lookup_cons]
    cases q : (a == b) with
    | true => rw [q] at h; exact .inl h
    | false => rw [q] at h; exact lookup_app h
theorem names_back : ∀ r : List Str, ((r.map fun x => Value.str x 0).filterMap fun v => match v with
    | .str x _ => some x
    | _ => none) = r
  | [] => rfl
  | x :: r => congrArg (x :: ·) (names_back r)
/-- isinstance of a caught exception -/
def exiB (K : PySem.W.Frag) (C : Addr) : Bool := (PySem.W.clsIn K C).isSome && (He.eqO (PySem.W.findIn K (.ref C) "__getattribute__") (some (some (.builtin "BaseException.__getattribute__"))) && (He.eqO (PySem.W.findIn K (.ref C) "__getattr__") (some none) &&
  (eqB (PySem.W.subIn K (.ref C) (.type "BaseException")) (some true) && (He.eqO (PySem.W.findIn K (.ref C) "__class__") (some (some (.builtin "object.__class__"))) && (He.eqO (PySem.W.specialIn K (.builtin "object.__class__") "__get__") (some (some (.builtin "getset_descriptor.__get__"))) &&
  (eqB (PySem.W.takesIn K (.builtin "object.__class__")) (some true) && eqB (PySem.W.mroIn K C (.type "object")) (some true)))))))
def isxA (K : PySem.W.Frag) (C : Addr) : List Str → Option Bool
  | [n] => PySem.W.kitOne K (.ref C) (.ref (He.ga K n))
  | ns => PySem.W.kitAny K (.ref C) (ns.map fun n => .ref (He.ga K n))
def isxB (ns all yes : List Str) (K : PySem.W.Frag) : Bool := all.all fun c => exiB K (He.ga K c) && eqB (isxA K (He.ga K c) ns) (some (decide (c ∈ yes)))
structure Tabs (h : Heap) (K : PySem.W.Frag) (names : List Str) : Prop where
  tk : TK K = names
  nd : (names.map (tA K)).Nodup
  hd : ∀ x ∈ names, PySem.W.CodeHd h (cdA K x) (tA K x)
  emp : ∀ x ∈ names, h.get? (tA K x) = some { cls := .none, data := .fields #[] }
  out : ∀ x ∈ names, K.lookup (tA K x) = none
end L3
namespace L3
open PySem PySem.W PySem.Calls PyProof.Rows HandSHeadRun
noncomputable section
def mkBT (i : Nat) (f : Nat → Obj) (n : Nat) : Nat → Nat → Nat → PySem.W.BT
  | 0, _, _ => .nil
  | k + 1, a, b => match Nat.blt b n with
    | true => .node (f b) (mkBT i f n k (2 * a) (a + b)) (mkBT i f n k (2 * a) (2 * a + b))
    | false => .nil
def lookN (i : Nat) : List (Nat × Obj) → Nat → Option Obj
  | [], _ => none
  | (a, o) :: r, b => match Nat.beq a b with
    | true => some o
    | false => lookN i r b
/-- the i-th state's objects: those of E in full, others by x -/
def pick (i : Nat) (E : List (Nat × Obj)) (x : Nat → Obj) (b : Nat) : Obj := match lookN i E b with
  | some o => o
  | none => x b
def stV (i : Nat) (E : List (Nat × Obj)) (x : Nat → Obj) (n k : Nat) (os : OsState) : SharedT := ⟨mkBT i (pick i E x) n 16 1 0, n, {}, #[], {}, k, os⟩
abbrev Seg : Type := Option (Flow × SharedT × Code × Pos)
/-- what stands at an address behind a piece -/
def objAt (i : Nat) (r : Seg) (b : Nat) : Obj := match r with
  | some (_, s, _, _) => (match s.tree.get b with
    | some o => o
    | none => default)
  | none => default
def segS (os : OsState) (r : Seg) : SharedT := match r with
  | some (_, s, _, _) => s
  | none => ⟨.nil, 0, {}, #[], {}, 0, os⟩
def preS (os : OsState) (r : Option (SharedT × Thread)) : SharedT := match r with
  | some (s, _) => s
  | none => ⟨.nil, 0, {}, #[], {}, 0, os⟩
def finS (os : OsState) (r : Option SharedT) : SharedT := match r with
  | some s => s
  | none => ⟨.nil, 0, {}, #[], {}, 0, os⟩
section
variable (st : SharedT → Thread → Option (SharedT × Thread)) (n0 : Nat) (ann : Option Value)
def segF : Nat → SharedT → Thread → Seg
  | 0, _, _ => none
  | m + 1, s, t => match endAt 1 t with
    | some f => some (f, s, t.code, t.pos)
    | none => match stepOk n0 ann t with
      | false => none
      | true => match st s t with
        | some (s', t') => frS s' fun s' => segF m s' t'
        | none => none
def goT : Nat → SharedT → Thread → Option (SharedT × Thread)
  | 0, s, t => some (s, t)
  | m + 1, s, t => match through t with
    | true => none
    | false => match stepOk n0 ann t with
      | false => none
      | true => match st s t with
        | some (s', t') => frS s' fun s' => goT m s' t'
        | none => none
end
section
variable {tb : String → Option Builtin} {p : Program} {w : World} {n0 : Nat} {ann : Option Value}
theorem segF_ok : ∀ {m : Nat} {s s' : SharedT} {t : Thread} {f : Flow} {c : Code} {q : Pos}, segF (stepT (denote tb) p w) n0 ann m s t = some (f, s', c, q) → segRun tb p w n0 ann 1 m s.abs t = some (f, s'.abs, c, q)
  | 0, _, _, _, _, _, _, h => by cases h
  | m + 1, s, s', t, f, c, q, h => by
    unfold segF at h
    unfold segRun
    cases he : endAt 1 t with
    | some x => rw [he] at h; cases h; rfl
    | none =>
      rw [he] at h
      cases hk : stepOk n0 ann t with
      | false => rw [hk] at h; cases h
      | true =>
        rw [hk] at h
        cases hs : stepT (denote tb) p w s t with
        | none => rw [hs] at h; cases h
        | some r =>
          obtain ⟨s2, t2⟩ := r
          rw [hs] at h
          have h3 : (frS s2 fun s' => segF (stepT (denote tb) p w) n0 ann m s' t2) = some (f, s', c, q) := h
          rw [frS_eq] at h3
          show (match step (denote tb) p w s.abs t with
            | .go s' t' => segRun tb p w n0 ann 1 m s' t'
            | .halt _ _ => none) = some (f, s'.abs, c, q)
          rw [stepT_spec hs]
          exact segF_ok h3
theorem goT_ok : ∀ {m : Nat} {s s' : SharedT} {t t' : Thread}, goT (stepT (denote tb) p w) n0 ann m s t = some (s', t') → topGo tb p w n0 ann m s.abs t = some (s'.abs, t')
  | 0, _, _, _, _, h => by cases h; rfl
  | m + 1, s, s', t, t', h => by
    unfold goT at h
    unfold topGo
    cases he : through t with
    | true => rw [he] at h; cases h
    | false =>
      rw [he] at h
      cases hk : stepOk n0 ann t with
      | false => rw [hk] at h; cases h
      | true =>
        rw [hk] at h
        cases hs : stepT (denote tb) p w s t with
        | none => rw [hs] at h; cases h
        | some r =>
          obtain ⟨s2, t2⟩ := r
          rw [hs] at h
          have h3 : (frS s2 fun s' => goT (stepT (denote tb) p w) n0 ann m s' t2) = some (s', t') := h
          rw [frS_eq] at h3
          show (match step (denote tb) p w s.abs t with
            | .go s' t' => topGo tb p w n0 ann m s' t'
            | .halt _ _ => none) = some (s'.abs, t')
          rw [stepT_spec hs]
          exact goT_ok h3
end
def execQ : List Stmt → Env → Sem Flow := PySem.W.Fast.tw12563942051412417395
theorem execQ_eq : @PySem.execs = execQ := PySem.W.Fast.te12563942051412417395
def blkQ : List Stmt → Env → Sem Unit := PySem.W.Fast.tw1066825118222455980
theorem blkQ_eq : @PySem.blockStart = blkQ := PySem.W.Fast.te1066825118222455980
def stQ (p : Program) (w : World) : SharedT → Thread → Option (SharedT × Thread) := stepQ (denQ tabQ) p w
theorem stQ_eq (p : Program) (w : World) : stepT (denote treeTable) p w = stQ p w := by
  unfold stQ
  rw [stepQ_eq, denQ_eq, tabQ_eq]
def pcsT (l : List Stmt) (env : Env) (c : Code) (p q : Pos) : Thread := ⟨(execQ l env).wrap doneF deadEnd id id, c, p, [topFrame q]⟩
def blkT (l : List Stmt) (env : Env) (c : Code) (p q : Pos) : Thread := ⟨(blkQ l env).wrap (fun _ => doneF .next) deadEnd id id, c, p, [topFrame q]⟩
section
variable {p : Program} {w : World} {env : Env} {q : Pos} {N M : Nat} {s s' : SharedT} {r : Shared}
abbrev n00 : Nat := 11
abbrev an0 : Option Value := some (.ref 6)
theorem cut_piece {l rest : List Stmt} {c : Code} {pos p' : Pos} (h : segF (stQ p w) n00 an0 N s (pcsT l env c pos q) = some (.next, s', c, p')) (k : topRun treeTable p w n00 an0 M s'.abs (restOf rest env c p' [topFrame q]) = some r) :
    topRun treeTable p w n00 an0 (N + M) s.abs (restOf (l ++ rest) env c pos [topFrame q]) = some r := by
  have e : piecesOf l env c pos [topFrame q] = pcsT l env c pos q := by
    unfold pcsT
    rw [← execQ_eq]
  rw [← stQ_eq, ← e] at h
  exact piece_app (segF_ok h) k
theorem cut_block {b : List Stmt} {c : Code} {pos p' : Pos} (h : segF (stQ p w) n00 an0 N s (blkT b env c pos q) = some (.next, s', c, p')) (k : topRun treeTable p w n00 an0 M s'.abs (restOf b env c p' [topFrame q]) = some r) :
    topRun treeTable p w n00 an0 (N + M) s.abs ⟨denote treeTable (.body b env), c, pos, [topFrame q]⟩ = some r := by
  have e : blockOf b env c pos [topFrame q] = blkT b env c pos q := by
    unfold blkT
    rw [← blkQ_eq]
  rw [← stQ_eq, ← e] at h
  exact piece_block (segF_ok h) k
theorem cut_pre {b : List Stmt} {c : Code} {pos : Pos} (h : goT (stQ p w) n00 an0 N s (topStub p) = some (s', ⟨denQ tabQ (.body b env), c, pos, [topFrame q]⟩)) (k : topRun treeTable p w n00 an0 M s'.abs ⟨denote treeTable (.body b env), c, pos, [topFrame q]⟩ = some r) :
    topRun treeTable p w n00 an0 (N + M) s.abs (topStub p) = some r := by
  rw [← stQ_eq, ← denQ_eq, ← tabQ_eq] at h
  exact go_top (goT_ok h) k
theorem cut_end {c : Code} {pos : Pos} (h : goF (stQ p w) n00 an0 N s ⟨doneF .next, c, pos, [topFrame q]⟩ = some s') : topRun treeTable p w n00 an0 N s.abs (restOf [] env c pos [topFrame q]) = some s'.abs := by
  rw [← stQ_eq] at h
  exact goF_ok h
end
def boot0 (w : World) (os : OsState) : SharedT := match putAll (boot_heap w.params).objs.toList .nil 0 with
  | some r => bootT w os r
  | none => ⟨.nil, 0, {}, #[], {}, 0, os⟩
theorem boot_put (P : Params) : (putAll (boot_heap P).objs.toList .nil 0).isSome = true := by kernel_rfl
theorem boot_len (P : Params) : (boot_heap P).objs.size = 11 := by kernel_rfl
theorem boot_an (w : World) : bootAnn w = some (.ref 6) := by kernel_rfl
theorem boot0_abs (w : World) (os : OsState) : (boot0 w os).abs = ⟨boot_heap w.params, #[], boot_drawn, boot_toks, os⟩ := by
  unfold boot0
  have h := boot_put w.params
  cases e : putAll (boot_heap w.params).objs.toList .nil 0 with
  | none => rw [e] at h; cases h
  | some r =>
    obtain ⟨t, n⟩ := r
    have eh := putAll_heap e
    show (⟨absHeap t n (boot_heap w.params).life, #[], boot_drawn, boot_toks, os⟩ : Shared) = _
    rw [eh]
theorem left_cut {p q : Program} {loose : List Str} {Xt : Shared → Bool} {α : Type} {Yf : Shared → α} {Ya : World → α} {N M : Nat}
    (e : opening p = plainProg p.main.scope.names) (hN : Nat.ble 600 N = true) (f : ∀ s, fenceModules? p s = some s) (le : Nat.ble M N = true) (S : World → OsState → SharedT)
    (run : ∀ (w : World) (os : OsState), topRun treeTable p w n00 an0 M (boot0 w os).abs (topStub p) = some (S w os).abs)
    (k1 : ∀ (w : World) (os : OsState), looksF p (boot_heap w.params) (S w os).abs = true) (k2 : ∀ (w : World) (os : OsState), openSeen q loose (importedModules p.main.body) Xt true (S w os).abs = openGood q loose)
    (k3 : ∀ (w : World) (os : OsState), Yf (S w os).abs = Ya w) : LeftO p q loose Xt Yf Ya N true := fun w => by
  obtain ⟨⟨h, gs, d, k, os⟩, a, a'⟩ := Option.map_eq_some_iff.mp (boot_open e hN f w)
  obtain ⟨rfl, rfl, rfl, rfl⟩ : h = boot_heap w.params ∧ gs = Array.mk [] ∧ d = boot_drawn ∧ k = boot_toks := by simpa using a'
  have r := topRun_mono (N - M) _ _ _ _ (run w os)
  rw [show M + (N - M) = N by have := Nat.le_of_ble_eq_true le; omega, boot0_abs] at r
  have l1' : (staticsOk (importedModules p.main.body) (boot_heap w.params) (S w os).abs.heap && namesBound p (S w os).abs.heap && gensDone (S w os).abs && laidKept (boot_heap w.params) (S w os).abs.heap) = true := k1 w os
  have r' : topRun treeTable p w (boot_heap w.params).objs.size (bootAnn w) N ⟨boot_heap w.params, #[], boot_drawn, boot_toks, os⟩ (topStub p) = some (S w os).abs := by
    rw [boot_len, boot_an]
    exact r
  have t : topFrom treeTable p w N ⟨boot_heap w.params, Array.mk [], boot_drawn, boot_toks, os⟩ = some (S w os).abs := by
    unfold topFrom
    dsimp only
    rw [boot_ns]
    show (topRun treeTable p w (boot_heap w.params).objs.size (bootAnn w) N ⟨boot_heap w.params, #[], boot_drawn, boot_toks, os⟩ (topStub p)).bind _ = _
    rw [r']
    show (match staticsOk (importedModules p.main.body) (boot_heap w.params) (S w os).abs.heap && namesBound p (S w os).abs.heap && gensDone (S w os).abs && laidKept (boot_heap w.params) (S w os).abs.heap with | true => some (S w os).abs | false => none) = _
    rw [l1']
  unfold openEnds
  rw [a]
  show (topFrom treeTable p w N _).map _ = _
  rw [t]
  exact congrArg some (Prod.ext (k2 w os) (k3 w os))
theorem head_cut {r : OpenRow} {q : Program} {H : Hook} {M : Nat} {loose : List PySem.Str} {d : DefRec} {kwd : List (PySem.Str × PySem.Expr)}
    (e : opening r.prog = plainProg r.prog.main.scope.names) (f : ∀ s, fenceModules? r.prog s = some s) (S : World → OsState → SharedT)
    (run : ∀ (w : World) (os : OsState), topRun treeTable r.prog w n00 an0 M (boot0 w os).abs (topStub r.prog) = some (S w os).abs)
    (k1 : ∀ (w : World) (os : OsState), looksF r.prog (boot_heap w.params) (S w os).abs = true)
    (k2 : ∀ (w : World) (os : OsState), seenQ q loose (importedModules r.prog.main.body) (fun s => xlAt q [] s && recOk r.toRowW.records s) (S w os).abs = openGood q loose)
    (k3 : ∀ (w : World) (os : OsState), H.obs (S w os).abs = H.val w)
    (hdef : defOf q r.name = some (d, kwd)) (hp : r.prog.theDef r.name = some (d.params, d.body, d.scope)) (hk : kwWritten? d.params.kwonlyargs d.params.kw_defaults = some kwd)
    (hwr : (!r.writes || r.records.isEmpty) = true) (w1 : r.wellSaid = true) (ok : (chainsOk q && opensWell r.prog && (frees r.toRowW && r.within.isEmpty)) = true) (hb : r.prog.bare) (hw : r.toRowW.promised)
    (call : WalkO q loose (XL q []) H.says r.toRowW d kwd fun f vs => PySem.call f vs) : r.Holds := by
  have left : LeftO r.prog q loose (fun s => xlAt q [] s && recOk r.toRowW.records s) H.obs H.val (M + 600) true :=
    left_cut (M := M) e (Nat.ble_eq_true_of_le (by omega)) f (Nat.ble_eq_true_of_le (by omega)) S run k1 (fun w os => by rw [seenQ_eq]; exact k2 w os) k3
  exact PySem.W.holds_open (r := r) (q := q) (loose := loose) (XP := XL q []) (YP := H.says) (d := d) (kwd := kwd) left H.of H.keeps (fun s z => xl_of s (Bool.and_eq_true_iff.mp z).1) XL.keeps hdef hp hk (fun s z => recFacts_of (Bool.and_eq_true_iff.mp z).2) hwr w1 ok hb hw call
end
end L3
namespace L3
open PySem PySem.Spec PyProof.Rows L2
def sel {α : Type} (j : Nat) : List Nat → List α → List α
  | c :: cs, d :: ds => match Nat.beq c j with
    | true => d :: sel j cs ds
    | false => sel j cs ds
  | _, _ => []
theorem sel_mem {α : Type} {x : α} : ∀ {cs : List Nat} {ds : List α}, cs.length = ds.length → x ∈ ds → ∃ j ∈ cs, x ∈ sel j cs ds
  | [], [], _, h => by cases h
  | c :: cs, d :: ds, e, h => by
    rcases List.mem_cons.mp h with h | h
    · refine ⟨c, List.mem_cons_self, ?_⟩
      unfold sel
      rw [show Nat.beq c c = true from Nat.beq_refl c, h]
      exact List.mem_cons_self
    · obtain ⟨j, hj, hx⟩ := sel_mem (cs := cs) (ds := ds) (by simpa using e) h
      refine ⟨j, List.mem_cons_of_mem _ hj, ?_⟩
      unfold sel
      cases Nat.beq c j with
      | true => exact List.mem_cons_of_mem _ hx
      | false => exact hx
theorem sel_all {α : Type} {p : α → Bool} {cs js : List Nat} {ds : List α} (e : Nat.beq cs.length ds.length = true) (h : (cs.all fun c => js.contains c) = true) (a : ∀ j ∈ js, (sel j cs ds).all p = true) : ds.all p = true := by
  refine List.all_eq_true.mpr fun x hx => ?_
  obtain ⟨j, hj, hm⟩ := sel_mem (Nat.eq_of_beq_eq_true e) hx
  have hj' : j ∈ js := by simpa using List.all_eq_true.mp h j hj
  exact List.all_eq_true.mp (a j hj') x hm
theorem sel_map {α β : Type} {f g : α → β} {cs js : List Nat} {ds : List α} (e : Nat.beq cs.length ds.length = true) (h : (cs.all fun c => js.contains c) = true) (a : ∀ j ∈ js, (sel j cs ds).map f = (sel j cs ds).map g) : ds.map f = ds.map g := by
  refine List.map_congr_left fun x hx => ?_
  obtain ⟨j, hj, hm⟩ := sel_mem (Nat.eq_of_beq_eq_true e) hx
  have hj' : j ∈ js := by simpa using List.all_eq_true.mp h j hj
  exact List.map_inj_left.mp (a j hj') x hm
def kOf (as : List Addr) (names : List Str) (g : Addr → Option Obj) : PySem.W.Frag := (as.map fun a => (a, (g a).getD default)) ++ [mkT names]
theorem lookup_map {g : Addr → Obj} {a : Addr} {o : Obj} : ∀ {as : List Addr}, (as.map fun a => (a, g a)).lookup a = some o → a ∈ as ∧ o = g a
  | [], h => by cases h
  | b :: r, h => by
    rw [List.map_cons, List.lookup_cons] at h
    cases q : (a == b) with
    | true =>
      rw [q] at h
      rw [eq_of_beq q]
      exact ⟨List.mem_cons_self, (Option.some.inj h).symm⟩
    | false =>
      rw [q] at h
      obtain ⟨h1, h2⟩ := lookup_map (as := r) h
      exact ⟨List.mem_cons_of_mem _ h1, h2⟩
theorem lookup_map_none {g : Addr → Obj} {a : Addr} : ∀ {as : List Addr}, (as.map fun a => (a, g a)).lookup a = none → a ∉ as
  | [], h => fun z => nomatch z
  | b :: r, h => by
    rw [List.map_cons, List.lookup_cons] at h
    cases q : (a == b) with
    | true => rw [q] at h; cases h
    | false =>
      rw [q] at h
      intro z
      rcases List.mem_cons.mp z with z | z
      · rw [z] at q
        simp at q
      · exact lookup_map_none h z
theorem kOf_at {g : Addr → Option Obj} {as : List Addr} {names : List Str} (h1 : (as.all fun a => (g a).isSome) = true) (h2 : mainGlobals ∈ as) {a : Addr} {o : Obj} (h : (kOf as names g).lookup a = some o) : a ∈ as ∧ g a = some o := by
  unfold kOf at h
  rcases lookup_app h with h | ⟨h3, h4⟩
  · obtain ⟨ha, e⟩ := lookup_map (g := fun a => (g a).getD default) h
    have hs := List.all_eq_true.mp h1 a ha
    cases q : g a with
    | none => rw [q] at hs; cases hs
    | some u =>
      rw [q] at e
      exact ⟨ha, by rw [e]; rfl⟩
  · have := lookup_map_none h3
    rw [h4] at this
    exact (this h2).elim
def tabA (as : List Addr) (names : List Str) (g : Addr → Option Obj) : Bool :=
  decide (names.map (tA (kOf as names g))).Nodup && names.all fun x => PySem.W.codeHdIn (kOf as names g) (cdA (kOf as names g) x) (tA (kOf as names g) x) && ((match g (tA (kOf as names g) x) with
    | some o => tbB o
    | none => false) && !as.contains (tA (kOf as names g) x))
def obsA (as : List Addr) (fa : List He.Fa) (xs : List (PySem.W.Frag → Bool)) (fn : List DefX) (names : List Str) (g : Addr → Option Obj) : AlX :=
  (((as.all fun a => (g a).isSome) && as.contains mainGlobals) && ((obsX fa xs fn (kOf as names g)).1 && tabA as names g), (obsX fa xs fn (kOf as names g)).2)
def hookA (as : List Addr) (fa : List He.Fa) (xs : List (PySem.W.Frag → Bool)) (fn : List DefX) (names : List Str) : PySem.W.Hook where
  α := AlX
  obs := fun s => obsA as fa xs fn names s.heap.get?
  val := fun _ => valX fn
  says := fun _ h => ∃ K : PySem.W.Frag, K.In h ∧ SaysX fa xs fn K ∧ Tabs h K names
  of := fun _ s e => by
    have e0 : obsA as fa xs fn names s.heap.get? = valX fn := e
    have e1 := (Prod.mk.inj e0).1
    have e2 := (Prod.mk.inj e0).2
    obtain ⟨a1, a2⟩ := He.ba e1
    obtain ⟨h1, h2⟩ := He.ba a1
    have h2 : mainGlobals ∈ as := by simpa using h2
    obtain ⟨a3, b1⟩ := He.ba a2
    obtain ⟨b2, b3⟩ := He.ba b1
    refine ⟨_, fun a o q => (kOf_at h1 h2 q).2, Prod.ext a3 e2, ?_, of_decide_eq_true b2, fun x hx => PySem.W.codeHd_of_K (fun a o q => (kOf_at h1 h2 q).2) (He.ba (List.all_eq_true.mp b3 x hx)).1, fun x hx => ?_, fun x hx => ?_⟩
    · unfold kOf TK
      rw [List.getLast?_append]
      exact names_back names
    · have z := (He.ba (He.ba (List.all_eq_true.mp b3 x hx)).2).1
      split at z
      · rename_i o eo
        rw [eo, tbB_eq z]
      · cases z
    · have z := (He.ba (He.ba (List.all_eq_true.mp b3 x hx)).2).2
      match q : (kOf as names s.heap.get?).lookup (tA (kOf as names s.heap.get?) x) with
      | none => rfl
      | some o =>
        have := (kOf_at h1 h2 q).1
        simp [this] at z
  keeps := fun _ _ _ ⟨K, hK, c, t⟩ k => ⟨K, PySem.W.Frag.In.keeps hK k, c, t.tk, t.nd, fun x hx => (t.hd x hx).keeps k, fun x hx => k _ _ (t.emp x hx), t.out⟩
theorem obsA_eq {as : List Addr} {fa : List He.Fa} {xs : List (PySem.W.Frag → Bool)} {fn : List DefX} {names : List Str} {g : Addr → Option Obj} {s : Shared} (h : ∀ a, g a = s.heap.get? a) : obsA as fa xs fn names g = (hookA as fa xs fn names).obs s := by
  have e : g = s.heap.get? := funext h
  rw [e] <;> rfl
/-- one part of it -/
def obsP (j : Nat) (pa pf px pn : List Nat) (as : List Addr) (fa : List He.Fa) (xs : List (PySem.W.Frag → Bool)) (fn : List DefX) (names : List Str) (g : Addr → Option Obj) : AlX :=
  (((sel j pa as).all fun a => (g a).isSome) && (((sel j pf fa).all fun f => f.ok (kOf as names g)) && (((sel j px xs).all fun x => x (kOf as names g)) && (sel j pn fn).all fun d => d.ok (kOf as names g))), (sel j pn fn).map fun d => fnX (kOf as names g) (d.ad (kOf as names g)))
def lensB (pa pf px pn js : List Nat) (as : List Addr) (fa : List He.Fa) (xs : List (PySem.W.Frag → Bool)) (fn : List DefX) : Bool :=
  (Nat.beq pa.length as.length && (Nat.beq pf.length fa.length && (Nat.beq px.length xs.length && Nat.beq pn.length fn.length))) && ((pa.all fun c => js.contains c) && ((pf.all fun c => js.contains c) && ((px.all fun c => js.contains c) && (pn.all fun c => js.contains c))))
theorem obs_parts {pa pf px pn js : List Nat} {as : List Addr} {fa : List He.Fa} {xs : List (PySem.W.Frag → Bool)} {fn : List DefX} {names : List Str} {s : PySem.W.SharedT} (l : lensB pa pf px pn js as fa xs fn = true) (hm : as.contains mainGlobals = true) (t : tabA as names (HandSHeadRun.getT s) = true)
    (h : ∀ j ∈ js, obsP j pa pf px pn as fa xs fn names (HandSHeadRun.getT s) = (true, (sel j pn fn).map DefX.val)) : (hookA as fa xs fn names).obs s.abs = valX fn := by
  rw [← obsA_eq (HandSHeadRun.getT_eq s)]
  obtain ⟨l1, l2⟩ := He.ba l
  obtain ⟨a1, l1⟩ := He.ba l1
  obtain ⟨f1, l1⟩ := He.ba l1
  obtain ⟨x1, n1⟩ := He.ba l1
  obtain ⟨a2, l2⟩ := He.ba l2
  obtain ⟨f2, l2⟩ := He.ba l2
  obtain ⟨x2, n2⟩ := He.ba l2
  have p1 := fun j (hj : j ∈ js) => He.ba (Prod.mk.inj (h j hj)).1
  have p2 := fun j (hj : j ∈ js) => (Prod.mk.inj (h j hj)).2
  have q1 := sel_all a1 a2 fun j hj => (p1 j hj).1
  have q2 := sel_all f1 f2 fun j hj => (He.ba (p1 j hj).2).1
  have q3 := sel_all x1 x2 fun j hj => (He.ba (He.ba (p1 j hj).2).2).1
  have q4 := sel_all n1 n2 fun j hj => (He.ba (He.ba (p1 j hj).2).2).2
  have q5 := sel_map n1 n2 p2
  unfold obsA obsX valX
  rw [q1, hm, q2, q3, q4, q5, t]
  rfl
/-- what stands behind a piece: objects that stood before it are met as before (those that it changed stand in full) -/
def nxV (i lo : Nat) (r : Seg) (x : Nat → Obj) (b : Nat) : Obj := match Nat.blt b lo with
  | true => x b
  | false => objAt i r b
end L3
namespace L3
open PySem PySem.Spec PyProof.Rows L2
def getAdN (c m : Str) (K : PySem.W.Frag) : Addr := match PySem.W.recIn K (He.ma K (He.ga K c) m) "property" with
  | some (.ref f :: _) => f
  | _ => 0
def propNB (c m : Str) (K : PySem.W.Frag) : Bool := He.eqO (PySem.W.findIn K (.ref (He.ga K c)) m) (some (some (.ref (He.ma K (He.ga K c) m)))) && (He.eqO (PySem.W.specialIn K (.ref (He.ma K (He.ga K c) m)) "__get__") (some (some (.builtin "property.__get__"))) &&
  (eqB (PySem.W.takesIn K (.ref (He.ma K (He.ga K c) m))) (some true) && (match PySem.W.recIn K (He.ma K (He.ga K c) m) "property" with
    | some (.ref _ :: _) => true
    | _ => false)))
end L3
namespace Gk30
open PySem PySem.Spec PyProof.Rows L2 L3
def top (i : Nat) : Stmt := PySem.Challenge.pw_exactstats_k30_middle_lines.main.body.getD i (.Pass ⟨0, 0, 0, 0⟩)
def mkrs : List Str := ["_law_right", "law"]
abbrev s_BadPairs___init__ : Stmt := ((clsBody (top 8)).getD 0 (.Pass ⟨0, 0, 0, 0⟩))
abbrev s_BadNumber___init__ : Stmt := ((clsBody (top 5)).getD 0 (.Pass ⟨0, 0, 0, 0⟩))
abbrev s_TooMany___init__ : Stmt := ((clsBody (top 21)).getD 0 (.Pass ⟨0, 0, 0, 0⟩))
abbrev s_w_source : Stmt := (top 51)
abbrev s_w_next : Stmt := (top 52)
abbrev s_w_pick : Stmt := (top 54)
abbrev s_w_low : Stmt := (top 55)
abbrev s_w_drawn : Stmt := (top 62)
abbrev s_w_dots : Stmt := (top 68)
abbrev s_is_integer : Stmt := (top 23)
abbrev s_common_divisor : Stmt := (top 25)
abbrev s_Ratio___init__ : Stmt := ((clsBody (top 26)).getD 0 (.Pass ⟨0, 0, 0, 0⟩))
abbrev s_w_given : Stmt := (top 63)
abbrev s_w_paired : Stmt := (top 69)
abbrev s_w_minus : Stmt := (top 57)
abbrev s_w_through : Stmt := (top 59)
abbrev s_w_below : Stmt := (top 60)
abbrev s_w_sorted : Stmt := (top 61)
abbrev s_w_plus : Stmt := (top 56)
abbrev s_w_times : Stmt := (top 58)
abbrev s_w_middle : Stmt := (top 67)
abbrev s_w_half : Stmt := (top 72)
abbrev s_w_due : Stmt := (top 73)
abbrev s_Ratio_bottom : Stmt := ((clsBody (top 26)).getD 5 (.Pass ⟨0, 0, 0, 0⟩))
abbrev s_Ratio_top : Stmt := ((clsBody (top 26)).getD 4 (.Pass ⟨0, 0, 0, 0⟩))
abbrev s_w_taken : Stmt := (top 64)
abbrev s_w_kept : Stmt := (top 71)
abbrev s_is_row : Stmt := (top 37)
abbrev s_is_number : Stmt := (top 27)
abbrev s_is_pair : Stmt := (top 44)
abbrev s_ratio_of : Stmt := (top 30)
abbrev s_need_pairs : Stmt := (top 45)
abbrev s_need_items : Stmt := (top 38)
abbrev s_Ratio___eq__ : Stmt := ((clsBody (top 26)).getD 16 (.Pass ⟨0, 0, 0, 0⟩))
abbrev s_Ratio___sub__ : Stmt := ((clsBody (top 26)).getD 8 (.Pass ⟨0, 0, 0, 0⟩))
abbrev s_need_number : Stmt := (top 29)
abbrev s_Ratio_over : Stmt := ((clsBody (top 26)).getD 18 (.Pass ⟨0, 0, 0, 0⟩))
abbrev s_is_less : Stmt := (top 31)
abbrev s_joined : Stmt := (top 46)
abbrev s_arranged : Stmt := (top 47)
abbrev s_common : Stmt := (top 32)
abbrev s_total : Stmt := (top 34)
abbrev s_mean_of : Stmt := (top 40)
abbrev s_median_of : Stmt := (top 41)
abbrev s_Line___init__ : Stmt := ((clsBody (top 49)).getD 0 (.Pass ⟨0, 0, 0, 0⟩))
abbrev s_Ratio___mul__ : Stmt := ((clsBody (top 26)).getD 10 (.Pass ⟨0, 0, 0, 0⟩))
abbrev s_ordered : Stmt := (top 33)
abbrev s_middle_line : Stmt := (top 48)
abbrev s_Line_height : Stmt := ((clsBody (top 49)).getD 2 (.Pass ⟨0, 0, 0, 0⟩))
abbrev s_Line_slope : Stmt := ((clsBody (top 49)).getD 1 (.Pass ⟨0, 0, 0, 0⟩))
abbrev s_w_seen : Stmt := (top 70)
abbrev s_w_word : Stmt := (top 65)
abbrev s_w_told : Stmt := (top 66)
abbrev s_w_mixed : Stmt := (top 53)
abbrev s_w_right : Stmt := (top 74)
abbrev s_w_moved_right : Stmt := (top 75)
abbrev s_law : Stmt := (top 76)
def D_w_source : DefX := ⟨fun K => He.ga K "_law_source", "_law_source", "_law_source", defArgs s_w_source, defBody s_w_source, defScope s_w_source, [], []⟩
def D_w_next : DefX := ⟨fun K => He.ga K "_law_next", "_law_next", "_law_next", defArgs s_w_next, defBody s_w_next, defScope s_w_next, [], []⟩
def D_w_pick : DefX := ⟨fun K => He.ga K "_law_pick", "_law_pick", "_law_pick", defArgs s_w_pick, defBody s_w_pick, defScope s_w_pick, [], []⟩
def D_w_low : DefX := ⟨fun K => He.ga K "_law_low", "_law_low", "_law_low", defArgs s_w_low, defBody s_w_low, defScope s_w_low, [], []⟩
def D_w_drawn : DefX := ⟨fun K => He.ga K "_law_drawn", "_law_drawn", "_law_drawn", defArgs s_w_drawn, defBody s_w_drawn, defScope s_w_drawn, [], []⟩
def D_w_dots : DefX := ⟨fun K => He.ga K "_law_dots", "_law_dots", "_law_dots", defArgs s_w_dots, defBody s_w_dots, defScope s_w_dots, [], []⟩
def D_is_integer : DefX := ⟨fun K => He.ga K "is_integer", "is_integer", "is_integer", defArgs s_is_integer, defBody s_is_integer, defScope s_is_integer, [], []⟩
def D_common_divisor : DefX := ⟨fun K => He.ga K "common_divisor", "common_divisor", "common_divisor", defArgs s_common_divisor, defBody s_common_divisor, defScope s_common_divisor, [], []⟩
def D_Ratio___init__ : DefX := ⟨fun K => He.ma K (He.ga K "Ratio") "__init__", "__init__", "Ratio.__init__", defArgs s_Ratio___init__, defBody s_Ratio___init__, defScope s_Ratio___init__, [.int 1], []⟩
def D_w_given : DefX := ⟨fun K => He.ga K "_law_given", "_law_given", "_law_given", defArgs s_w_given, defBody s_w_given, defScope s_w_given, [], []⟩
def D_w_paired : DefX := ⟨fun K => He.ga K "_law_paired", "_law_paired", "_law_paired", defArgs s_w_paired, defBody s_w_paired, defScope s_w_paired, [], []⟩
def D_w_minus : DefX := ⟨fun K => He.ga K "_law_minus", "_law_minus", "_law_minus", defArgs s_w_minus, defBody s_w_minus, defScope s_w_minus, [], []⟩
def D_w_through : DefX := ⟨fun K => He.ga K "_law_through", "_law_through", "_law_through", defArgs s_w_through, defBody s_w_through, defScope s_w_through, [], []⟩
def D_w_below : DefX := ⟨fun K => He.ga K "_law_below", "_law_below", "_law_below", defArgs s_w_below, defBody s_w_below, defScope s_w_below, [], []⟩
def D_w_sorted : DefX := ⟨fun K => He.ga K "_law_sorted", "_law_sorted", "_law_sorted", defArgs s_w_sorted, defBody s_w_sorted, defScope s_w_sorted, [], []⟩
def D_w_plus : DefX := ⟨fun K => He.ga K "_law_plus", "_law_plus", "_law_plus", defArgs s_w_plus, defBody s_w_plus, defScope s_w_plus, [], []⟩
def D_w_times : DefX := ⟨fun K => He.ga K "_law_times", "_law_times", "_law_times", defArgs s_w_times, defBody s_w_times, defScope s_w_times, [], []⟩
def D_w_middle : DefX := ⟨fun K => He.ga K "_law_middle", "_law_middle", "_law_middle", defArgs s_w_middle, defBody s_w_middle, defScope s_w_middle, [], []⟩
def D_w_half : DefX := ⟨fun K => He.ga K "_law_half", "_law_half", "_law_half", defArgs s_w_half, defBody s_w_half, defScope s_w_half, [], []⟩
def D_w_due : DefX := ⟨fun K => He.ga K "_law_due", "_law_due", "_law_due", defArgs s_w_due, defBody s_w_due, defScope s_w_due, [], []⟩
def D_Ratio_bottom : DefX := ⟨fun K => getAd "bottom" K, "bottom", "Ratio.bottom", defArgs s_Ratio_bottom, defBody s_Ratio_bottom, defScope s_Ratio_bottom, [], []⟩
def D_Ratio_top : DefX := ⟨fun K => getAd "top" K, "top", "Ratio.top", defArgs s_Ratio_top, defBody s_Ratio_top, defScope s_Ratio_top, [], []⟩
def D_w_taken : DefX := ⟨fun K => He.ga K "_law_taken", "_law_taken", "_law_taken", defArgs s_w_taken, defBody s_w_taken, defScope s_w_taken, [], []⟩
def D_w_kept : DefX := ⟨fun K => He.ga K "_law_kept", "_law_kept", "_law_kept", defArgs s_w_kept, defBody s_w_kept, defScope s_w_kept, [], []⟩
def D_is_row : DefX := ⟨fun K => He.ga K "is_row", "is_row", "is_row", defArgs s_is_row, defBody s_is_row, defScope s_is_row, [], []⟩
def D_is_number : DefX := ⟨fun K => He.ga K "is_number", "is_number", "is_number", defArgs s_is_number, defBody s_is_number, defScope s_is_number, [], []⟩
def D_is_pair : DefX := ⟨fun K => He.ga K "is_pair", "is_pair", "is_pair", defArgs s_is_pair, defBody s_is_pair, defScope s_is_pair, [], []⟩
def D_ratio_of : DefX := ⟨fun K => He.ga K "ratio_of", "ratio_of", "ratio_of", defArgs s_ratio_of, defBody s_ratio_of, defScope s_ratio_of, [], []⟩
def D_need_pairs : DefX := ⟨fun K => He.ga K "need_pairs", "need_pairs", "need_pairs", defArgs s_need_pairs, defBody s_need_pairs, defScope s_need_pairs, [], []⟩
def D_need_items : DefX := ⟨fun K => He.ga K "need_items", "need_items", "need_items", defArgs s_need_items, defBody s_need_items, defScope s_need_items, [], []⟩
def D_Ratio___eq__ : DefX := ⟨fun K => He.ma K (He.ga K "Ratio") "__eq__", "__eq__", "Ratio.__eq__", defArgs s_Ratio___eq__, defBody s_Ratio___eq__, defScope s_Ratio___eq__, [], []⟩
def D_Ratio___sub__ : DefX := ⟨fun K => He.ma K (He.ga K "Ratio") "__sub__", "__sub__", "Ratio.__sub__", defArgs s_Ratio___sub__, defBody s_Ratio___sub__, defScope s_Ratio___sub__, [], []⟩
def D_need_number : DefX := ⟨fun K => He.ga K "need_number", "need_number", "need_number", defArgs s_need_number, defBody s_need_number, defScope s_need_number, [], []⟩
def D_Ratio_over : DefX := ⟨fun K => He.ma K (He.ga K "Ratio") "over", "over", "Ratio.over", defArgs s_Ratio_over, defBody s_Ratio_over, defScope s_Ratio_over, [], []⟩
def D_is_less : DefX := ⟨fun K => He.ga K "is_less", "is_less", "is_less", defArgs s_is_less, defBody s_is_less, defScope s_is_less, [], []⟩
def D_joined : DefX := ⟨fun K => He.ga K "joined", "joined", "joined", defArgs s_joined, defBody s_joined, defScope s_joined, [], []⟩
def D_arranged : DefX := ⟨fun K => He.ga K "arranged", "arranged", "arranged", defArgs s_arranged, defBody s_arranged, defScope s_arranged, [], []⟩
def D_common : DefX := ⟨fun K => He.ga K "common", "common", "common", defArgs s_common, defBody s_common, defScope s_common, [], []⟩
def D_total : DefX := ⟨fun K => He.ga K "total", "total", "total", defArgs s_total, defBody s_total, defScope s_total, [], []⟩
def D_mean_of : DefX := ⟨fun K => He.ga K "mean_of", "mean_of", "mean_of", defArgs s_mean_of, defBody s_mean_of, defScope s_mean_of, [], []⟩
def D_median_of : DefX := ⟨fun K => He.ga K "median_of", "median_of", "median_of", defArgs s_median_of, defBody s_median_of, defScope s_median_of, [], []⟩
def D_Line___init__ : DefX := ⟨fun K => He.ma K (He.ga K "Line") "__init__", "__init__", "Line.__init__", defArgs s_Line___init__, defBody s_Line___init__, defScope s_Line___init__, [], []⟩
def D_Ratio___mul__ : DefX := ⟨fun K => He.ma K (He.ga K "Ratio") "__mul__", "__mul__", "Ratio.__mul__", defArgs s_Ratio___mul__, defBody s_Ratio___mul__, defScope s_Ratio___mul__, [], []⟩
def D_ordered : DefX := ⟨fun K => He.ga K "ordered", "ordered", "ordered", defArgs s_ordered, defBody s_ordered, defScope s_ordered, [], []⟩
def D_middle_line : DefX := ⟨fun K => He.ga K "middle_line", "middle_line", "middle_line", defArgs s_middle_line, defBody s_middle_line, defScope s_middle_line, [], []⟩
def D_Line_height : DefX := ⟨fun K => getAdN "Line" "height" K, "height", "Line.height", defArgs s_Line_height, defBody s_Line_height, defScope s_Line_height, [], []⟩
def D_Line_slope : DefX := ⟨fun K => getAdN "Line" "slope" K, "slope", "Line.slope", defArgs s_Line_slope, defBody s_Line_slope, defScope s_Line_slope, [], []⟩
def D_w_seen : DefX := ⟨fun K => He.ga K "_law_seen", "_law_seen", "_law_seen", defArgs s_w_seen, defBody s_w_seen, defScope s_w_seen, [], []⟩
def D_w_word : DefX := ⟨fun K => He.ga K "_law_word", "_law_word", "_law_word", defArgs s_w_word, defBody s_w_word, defScope s_w_word, [], []⟩
def D_w_told : DefX := ⟨fun K => He.ga K "_law_told", "_law_told", "_law_told", defArgs s_w_told, defBody s_w_told, defScope s_w_told, [], []⟩
def D_w_mixed : DefX := ⟨fun K => He.ga K "_law_mixed", "_law_mixed", "_law_mixed", defArgs s_w_mixed, defBody s_w_mixed, defScope s_w_mixed, [], []⟩
def D_w_right : DefX := ⟨fun K => He.ga K "_law_right", "_law_right", "_law_right", defArgs s_w_right, defBody s_w_right, defScope s_w_right, [], []⟩
def D_w_moved_right : DefX := ⟨fun K => He.ga K "_law_moved_right", "_law_moved_right", "_law_moved_right", defArgs s_w_moved_right, defBody s_w_moved_right, defScope s_w_moved_right, [], []⟩
def D_law : DefX := ⟨fun K => He.ga K "law", "law", "law", defArgs s_law, defBody s_law, defScope s_law, [], []⟩
def D_BadPairs___init__ : DefX := ⟨fun K => He.ma K (He.ga K "BadPairs") "__init__", "__init__", "BadPairs.__init__", defArgs s_BadPairs___init__, defBody s_BadPairs___init__, defScope s_BadPairs___init__, [.non], []⟩
def D_BadNumber___init__ : DefX := ⟨fun K => He.ma K (He.ga K "BadNumber") "__init__", "__init__", "BadNumber.__init__", defArgs s_BadNumber___init__, defBody s_BadNumber___init__, defScope s_BadNumber___init__, [], []⟩
def D_TooMany___init__ : DefX := ⟨fun K => He.ma K (He.ga K "TooMany") "__init__", "__init__", "TooMany.__init__", defArgs s_TooMany___init__, defBody s_TooMany___init__, defScope s_TooMany___init__, [], []⟩
def fn : List DefX := [D_w_source, D_w_next, D_w_pick, D_w_low, D_w_drawn, D_w_dots, D_is_integer, D_common_divisor, D_Ratio___init__, D_w_given, D_w_paired, D_w_minus, D_w_through, D_w_below, D_w_sorted, D_w_plus, D_w_times, D_w_middle, D_w_half, D_w_due, D_Ratio_bottom, D_Ratio_top, D_w_taken, D_w_kept, D_is_row, D_is_number, D_is_pair, D_ratio_of, D_need_pairs, D_need_items, D_Ratio___eq__, D_Ratio___sub__, D_need_number, D_Ratio_over, D_is_less, D_joined, D_arranged, D_common, D_total, D_mean_of, D_median_of, D_Line___init__, D_Ratio___mul__, D_ordered, D_middle_line, D_Line_height, D_Line_slope, D_w_seen, D_w_word, D_w_told, D_w_mixed, D_w_right, D_w_moved_right, D_law, D_BadPairs___init__, D_BadNumber___init__, D_TooMany___init__]
def fa : List He.Fa := [.glo "_law_source", .glo "_law_next", .glo "_law_pick", .glo "_law_low", .glo "_law_drawn", .glo "_law_dots", .glo "is_integer", .glo "common_divisor", .glo "_law_given", .glo "_law_paired", .glo "_law_minus", .glo "_law_through", .glo "_law_below", .glo "_law_sorted", .glo "_law_plus", .glo "_law_times", .glo "_law_middle", .glo "_law_half", .glo "_law_due", .glo "_law_taken", .glo "_law_kept", .glo "is_row", .glo "is_number", .glo "is_pair", .glo "ratio_of", .glo "need_pairs", .glo "need_items", .glo "need_number", .glo "is_less", .glo "joined", .glo "arranged", .glo "common", .glo "total", .glo "mean_of", .glo "median_of", .glo "ordered", .glo "middle_line", .glo "_law_seen", .glo "_law_word", .glo "_law_told", .glo "_law_mixed", .glo "_law_right", .glo "_law_moved_right", .glo "law", .glo "is_number_ratios", .glo "BadPairs", .glo "Empty", .glo "BadNumber", .glo "TooMany", .glo "NoSpread", .glo "BadShare", .glo "BadAmount", .glo "BadRule", .glo "BadSummary", .glo "BadWeights", .glo "BadSample", .glo "BadEdges", .glo "TooFew", .glo "NotThere", .glo "Unbounded", .glo "Impossible", .glo "BadInput", .glo "Absent", .glo "Undefined", .glo "Ratio", .cls "Ratio", .noat "Ratio" "own_top", .noat "Ratio" "own_bottom", .mkr "Ratio", .glo "Line", .cls "Line", .noat "Line" "own_height", .noat "Line" "own_slope", .mkr "Line", .free "abs", .free "bool", .free "enumerate", .free "int", .free "isinstance", .free "len", .free "list", .free "min", .free "range", .free "sorted", .free "sum", .free "tuple", .int "MOST_ITEMS" 1000, .int "MOST_MIDDLE" 40, .meth "Ratio" "over"]
def xs : List (PySem.W.Frag → Bool) := [kisiB, fun K => clsIB K (He.ga K "Ratio"), fun K => isiB K (He.ga K "Ratio"), oxB .ve "BadPairs" "index", ex0B .le "Empty", oxB .ve "BadNumber" "value", oxB .ae "TooMany" "most", ex0B .ae "NoSpread", isxB ["BadShare"] ["BadInput", "Absent", "Undefined", "BadNumber", "BadSample", "BadWeights", "BadPairs", "BadShare", "BadRule", "BadAmount", "BadEdges", "BadSummary", "Empty", "TooFew", "NotThere", "DividedByZero", "NoSpread", "Impossible", "Unbounded", "TooMany"] ["BadShare"], isxB ["BadNumber"] ["BadInput", "Absent", "Undefined", "BadNumber", "BadSample", "BadWeights", "BadPairs", "BadShare", "BadRule", "BadAmount", "BadEdges", "BadSummary", "Empty", "TooFew", "NotThere", "DividedByZero", "NoSpread", "Impossible", "Unbounded", "TooMany"] ["BadNumber"], isxB ["BadAmount"] ["BadInput", "Absent", "Undefined", "BadNumber", "BadSample", "BadWeights", "BadPairs", "BadShare", "BadRule", "BadAmount", "BadEdges", "BadSummary", "Empty", "TooFew", "NotThere", "DividedByZero", "NoSpread", "Impossible", "Unbounded", "TooMany"] ["BadAmount"], isxB ["BadRule"] ["BadInput", "Absent", "Undefined", "BadNumber", "BadSample", "BadWeights", "BadPairs", "BadShare", "BadRule", "BadAmount", "BadEdges", "BadSummary", "Empty", "TooFew", "NotThere", "DividedByZero", "NoSpread", "Impossible", "Unbounded", "TooMany"] ["BadRule"], isxB ["BadSummary"] ["BadInput", "Absent", "Undefined", "BadNumber", "BadSample", "BadWeights", "BadPairs", "BadShare", "BadRule", "BadAmount", "BadEdges", "BadSummary", "Empty", "TooFew", "NotThere", "DividedByZero", "NoSpread", "Impossible", "Unbounded", "TooMany"] ["BadSummary"], hefB ["BadNumber", "BadShare", "BadRule", "BadAmount", "BadSummary"] "value", isxB ["BadWeights"] ["BadInput", "Absent", "Undefined", "BadNumber", "BadSample", "BadWeights", "BadPairs", "BadShare", "BadRule", "BadAmount", "BadEdges", "BadSummary", "Empty", "TooFew", "NotThere", "DividedByZero", "NoSpread", "Impossible", "Unbounded", "TooMany"] ["BadWeights"], isxB ["BadSample"] ["BadInput", "Absent", "Undefined", "BadNumber", "BadSample", "BadWeights", "BadPairs", "BadShare", "BadRule", "BadAmount", "BadEdges", "BadSummary", "Empty", "TooFew", "NotThere", "DividedByZero", "NoSpread", "Impossible", "Unbounded", "TooMany"] ["BadSample"], isxB ["BadEdges"] ["BadInput", "Absent", "Undefined", "BadNumber", "BadSample", "BadWeights", "BadPairs", "BadShare", "BadRule", "BadAmount", "BadEdges", "BadSummary", "Empty", "TooFew", "NotThere", "DividedByZero", "NoSpread", "Impossible", "Unbounded", "TooMany"] ["BadEdges"], isxB ["BadPairs"] ["BadInput", "Absent", "Undefined", "BadNumber", "BadSample", "BadWeights", "BadPairs", "BadShare", "BadRule", "BadAmount", "BadEdges", "BadSummary", "Empty", "TooFew", "NotThere", "DividedByZero", "NoSpread", "Impossible", "Unbounded", "TooMany"] ["BadPairs"], hefB ["BadSample", "BadWeights", "BadPairs", "BadEdges"] "index", isxB ["TooFew"] ["BadInput", "Absent", "Undefined", "BadNumber", "BadSample", "BadWeights", "BadPairs", "BadShare", "BadRule", "BadAmount", "BadEdges", "BadSummary", "Empty", "TooFew", "NotThere", "DividedByZero", "NoSpread", "Impossible", "Unbounded", "TooMany"] ["TooFew"], hefB ["TooFew"] "needed", isxB ["NotThere", "TooMany"] ["BadInput", "Absent", "Undefined", "BadNumber", "BadSample", "BadWeights", "BadPairs", "BadShare", "BadRule", "BadAmount", "BadEdges", "BadSummary", "Empty", "TooFew", "NotThere", "DividedByZero", "NoSpread", "Impossible", "Unbounded", "TooMany"] ["NotThere", "TooMany"], isxB ["NotThere"] ["BadInput", "Absent", "Undefined", "BadNumber", "BadSample", "BadWeights", "BadPairs", "BadShare", "BadRule", "BadAmount", "BadEdges", "BadSummary", "Empty", "TooFew", "NotThere", "DividedByZero", "NoSpread", "Impossible", "Unbounded", "TooMany"] ["NotThere"], hefB ["NotThere"] "item", hefB ["TooMany"] "most", isxB ["NoSpread"] ["BadInput", "Absent", "Undefined", "BadNumber", "BadSample", "BadWeights", "BadPairs", "BadShare", "BadRule", "BadAmount", "BadEdges", "BadSummary", "Empty", "TooFew", "NotThere", "DividedByZero", "NoSpread", "Impossible", "Unbounded", "TooMany"] ["NoSpread"], isxB ["Empty"] ["BadInput", "Absent", "Undefined", "BadNumber", "BadSample", "BadWeights", "BadPairs", "BadShare", "BadRule", "BadAmount", "BadEdges", "BadSummary", "Empty", "TooFew", "NotThere", "DividedByZero", "NoSpread", "Impossible", "Unbounded", "TooMany"] ["Empty"], isxB ["Unbounded"] ["BadInput", "Absent", "Undefined", "BadNumber", "BadSample", "BadWeights", "BadPairs", "BadShare", "BadRule", "BadAmount", "BadEdges", "BadSummary", "Empty", "TooFew", "NotThere", "DividedByZero", "NoSpread", "Impossible", "Unbounded", "TooMany"] ["Unbounded"], isxB ["Impossible"] ["BadInput", "Absent", "Undefined", "BadNumber", "BadSample", "BadWeights", "BadPairs", "BadShare", "BadRule", "BadAmount", "BadEdges", "BadSummary", "Empty", "TooFew", "NotThere", "DividedByZero", "NoSpread", "Impossible", "Unbounded", "TooMany"] ["Impossible"], htB ["BadInput", "Absent", "Undefined"] ["BadInput", "Absent", "Undefined", "BadNumber", "BadSample", "BadWeights", "BadPairs", "BadShare", "BadRule", "BadAmount", "BadEdges", "BadSummary", "Empty", "TooFew", "NotThere", "DividedByZero", "NoSpread", "Impossible", "Unbounded", "TooMany"], propB "bottom", propB "top", cmpB, binB "sub", binB "mul", propNB "Line" "height", propNB "Line" "slope", fun K => decide (He.ga K "is_number_ratios" = He.ga K "is_number")]
end Gk30
namespace Gk30
open PySem PySem.W PySem.Spec PyProof.Rows L3
noncomputable section
def loose : List Str := (["_wall", "BadInput", "Absent", "Undefined", "BadNumber", "BadSample", "BadWeights", "BadPairs", "BadShare", "BadRule", "BadAmount", "BadEdges"] : List Str) ++ (["BadSummary", "Empty", "TooFew", "NotThere", "DividedByZero", "NoSpread", "Impossible", "Unbounded", "TooMany", "is_integer", "common_divisor", "Ratio"] : List Str) ++ (["is_number", "is_number_ratios", "need_number", "ratio_of", "is_less", "common", "ordered", "total", "MOST_ITEMS", "is_row", "need_items", "mean_of"] : List Str) ++ (["median_of", "MOST_MIDDLE", "is_pair", "need_pairs", "joined", "arranged", "middle_line", "Line", "_law_source", "_law_next", "_law_mixed", "_law_pick"] : List Str) ++ (["_law_low", "_law_plus", "_law_minus", "_law_times", "_law_through", "_law_below", "_law_sorted", "_law_drawn", "_law_given", "_law_taken", "_law_word", "_law_told"] : List Str) ++ (["_law_middle", "_law_dots", "_law_paired", "_law_seen", "_law_kept", "_law_half", "_law_due", "_law_right", "_law_moved_right"] : List Str)
abbrev R : PySem.W.OpenRow := PySem.W.OpenLaw.row PySem.Challenge.rw_exactstats_k30_middle_lines
abbrev PR : PySem.Program := R.prog
def bd : List Stmt := PR.main.body
def env : Env := { scope := PR.main.scope, locals := mainNs, globals := mainNs, cells := [], code := .ref 13, frame := some 14 }
def cE : Code := .body bd env
def fp : Pos := { line := 0, col := 0, endLine := 0, endCol := 0 }
def l1 : List Stmt := (bd.drop 0).take 15
def l2 : List Stmt := (bd.drop 15).take 14
def l3 : List Stmt := (bd.drop 29).take 48
theorem split : bd = l1 ++ (l2 ++ (l3 ++ [])) := by kernel_rfl
def E1 (P : Params) : List (Nat × Obj) := [(0, PySem.W.boot_o_0 P),
  (1, PySem.W.boot_o_1 P),
  (2, { cls := Value.none, data := Data.dict #[{ hash := PyData.keyHash P (Str.ofString "type.__subclasses__.ArithmeticError.0"), key := Value.str (Str.ofString "type.__subclasses__.ArithmeticError.0") 248, val := Value.int 57 0 }, { hash := PyData.keyHash P (Str.ofString "type.__subclasses__.ArithmeticError.n"), key := Value.str (Str.ofString "type.__subclasses__.ArithmeticError.n") 249, val := Value.int 1 0 }] 2 }),
  (3, { cls := Value.type "dict", data := Data.dict #[{ hash := PyData.keyHash P (Str.ofString "__name__"), key := Value.str (Str.ofString "__name__") 165, val := Value.str (Str.ofString "exactstats.errors") 194 }, { hash := PyData.keyHash P (Str.ofString "__doc__"), key := Value.str (Str.ofString "__doc__") 166, val := Value.none }, { hash := PyData.keyHash P (Str.ofString "__package__"), key := Value.str (Str.ofString "__package__") 167, val := Value.none }, { hash := PyData.keyHash P (Str.ofString "__loader__"), key := Value.str (Str.ofString "__loader__") 168, val := Value.builtin "__main__.__loader__#opaque" }, { hash := PyData.keyHash P (Str.ofString "__spec__"), key := Value.str (Str.ofString "__spec__") 169, val := Value.none }, { hash := PyData.keyHash P (Str.ofString "__annotations__"), key := Value.str (Str.ofString "__annotations__") 170, val := Value.ref 6 }, { hash := PyData.keyHash P (Str.ofString "__builtins__"), key := Value.str (Str.ofString "__builtins__") 171, val := Value.ref 4 }, { hash := PyData.keyHash P (Str.ofString "__file__"), key := Value.str (Str.ofString "__file__") 173, val := Value.str (Str.ofString "/claim/cut.py") 172 }, { hash := PyData.keyHash P (Str.ofString "__cached__"), key := Value.str (Str.ofString "__cached__") 174, val := Value.none }, { hash := PyData.keyHash P (Str.ofString "_wall"), key := Value.str (Str.ofString "_wall") 193, val := Value.ref 21 }, { hash := PyData.keyHash P (Str.ofString "BadInput"), key := Value.str (Str.ofString "BadInput") 213, val := Value.ref 31 }, { hash := PyData.keyHash P (Str.ofString "Absent"), key := Value.str (Str.ofString "Absent") 231, val := Value.ref 44 }, { hash := PyData.keyHash P (Str.ofString "Undefined"), key := Value.str (Str.ofString "Undefined") 251, val := Value.ref 57 }, { hash := PyData.keyHash P (Str.ofString "BadNumber"), key := Value.str (Str.ofString "BadNumber") 276, val := Value.ref 77 }, { hash := PyData.keyHash P (Str.ofString "BadSample"), key := Value.str (Str.ofString "BadSample") 301, val := Value.ref 97 }, { hash := PyData.keyHash P (Str.ofString "BadWeights"), key := Value.str (Str.ofString "BadWeights") 326, val := Value.ref 117 }, { hash := PyData.keyHash P (Str.ofString "BadPairs"), key := Value.str (Str.ofString "BadPairs") 351, val := Value.ref 137 }, { hash := PyData.keyHash P (Str.ofString "BadShare"), key := Value.str (Str.ofString "BadShare") 376, val := Value.ref 156 }, { hash := PyData.keyHash P (Str.ofString "BadRule"), key := Value.str (Str.ofString "BadRule") 401, val := Value.ref 175 }, { hash := PyData.keyHash P (Str.ofString "BadAmount"), key := Value.str (Str.ofString "BadAmount") 426, val := Value.ref 194 }, { hash := PyData.keyHash P (Str.ofString "BadEdges"), key := Value.str (Str.ofString "BadEdges") 451, val := Value.ref 214 }, { hash := PyData.keyHash P (Str.ofString "BadSummary"), key := Value.str (Str.ofString "BadSummary") 476, val := Value.ref 233 }, { hash := PyData.keyHash P (Str.ofString "Empty"), key := Value.str (Str.ofString "Empty") 492, val := Value.ref 245 }] 23 }),
  (4, PySem.W.boot_o_4 P),
  (5, PySem.W.boot_o_5 P),
  (6, PySem.W.boot_o_6 P),
  (7, PySem.W.boot_o_7 P),
  (8, PySem.W.boot_o_8 P),
  (9, PySem.W.boot_o_9 P),
  (10, PySem.W.boot_o_10 P),
  (11, { cls := Value.type "tuple", data := Data.seq #[] }),
  (12, { cls := Value.none, data := Data.fields #[Value.int 1 0, Value.int 0 0, Value.ref 20, Value.int 5 0, Value.int 0 0, Value.ref 27, Value.int 7 0, Value.int 0 0, Value.ref 40, Value.int 9 0, Value.int 0 0, Value.ref 53, Value.int 11 0, Value.int 0 0, Value.ref 66, Value.int 15 0, Value.int 0 0, Value.ref 85, Value.int 19 0, Value.int 0 0, Value.ref 105, Value.int 23 0, Value.int 0 0, Value.ref 125, Value.int 27 0, Value.int 0 0, Value.ref 145, Value.int 31 0, Value.int 0 0, Value.ref 164, Value.int 35 0, Value.int 0 0, Value.ref 183, Value.int 39 0, Value.int 0 0, Value.ref 202, Value.int 43 0, Value.int 0 0, Value.ref 222, Value.int 47 0, Value.int 0 0, Value.ref 241] }),
  (13, { cls := Value.type "code", data := Data.fields #[Value.str (Str.ofString "<module>") 182, Value.str (Str.ofString "<module>") 183, Value.str (Str.ofString "/claim/cut.py") 184, Value.int 1 0, Value.int 0 0, Value.int 0 0, Value.int 0 0, Value.int 0 0, Value.ref 11, Value.bool false, Value.int 181 0, Value.ref 12, Value.none, Value.none, Value.none, Value.none, Value.int 185 0, Value.int 1 0, Value.str (Str.ofString "/claim/cut.py") 186] }),
  (14, { cls := Value.type "frame", slots := #[some (Value.ref 13), some (Value.ref 3), some (Value.ref 3), none, some (Value.str (Str.ofString "__main__") 164), none, some (Value.ref 0)] }),
  (43, { cls := Value.type "dict", data := Data.dict #[{ hash := PyData.keyHash P (Str.ofString "__module__"), key := Value.str (Str.ofString "__module__") 221, val := Value.str (Str.ofString "exactstats.errors") 194 }, { hash := PyData.keyHash P (Str.ofString "__firstlineno__"), key := Value.str (Str.ofString "__firstlineno__") 225, val := Value.int 7 224 }, { hash := PyData.keyHash P (Str.ofString "__static_attributes__"), key := Value.str (Str.ofString "__static_attributes__") 226, val := Value.ref 42 }, { hash := PyData.keyHash P (Str.ofString "__weakref__"), key := Value.str (Str.ofString "__weakref__") 228, val := Value.ref 45 }, { hash := PyData.keyHash P (Str.ofString "__doc__"), key := Value.str (Str.ofString "__doc__") 229, val := Value.none }] 3 }),
  (44, { cls := Value.type "type", data := Data.cls { name := Str.ofString "Absent", bases := [Value.type "LookupError"], mro := [Value.ref 44, Value.type "LookupError", Value.type "Exception", Value.type "BaseException", Value.type "object"], ns := 43, qualname := Str.ofString "Absent", subclasses := [Value.ref 245] }, slots := #[some (Value.ref 35), none, some (Value.str (Str.ofString "Absent") 214), some (Value.str (Str.ofString "Absent") 222), some (Value.builtin "LookupError.__new__"), some (Value.bool true)] }),
  (56, { cls := Value.type "dict", data := Data.dict #[{ hash := PyData.keyHash P (Str.ofString "__module__"), key := Value.str (Str.ofString "__module__") 239, val := Value.str (Str.ofString "exactstats.errors") 194 }, { hash := PyData.keyHash P (Str.ofString "__firstlineno__"), key := Value.str (Str.ofString "__firstlineno__") 243, val := Value.int 9 242 }, { hash := PyData.keyHash P (Str.ofString "__static_attributes__"), key := Value.str (Str.ofString "__static_attributes__") 244, val := Value.ref 55 }, { hash := PyData.keyHash P (Str.ofString "__weakref__"), key := Value.str (Str.ofString "__weakref__") 246, val := Value.ref 58 }, { hash := PyData.keyHash P (Str.ofString "__doc__"), key := Value.str (Str.ofString "__doc__") 247, val := Value.none }] 3 }),
  (57, { cls := Value.type "type", data := Data.cls { name := Str.ofString "Undefined", bases := [Value.type "ArithmeticError"], mro := [Value.ref 57, Value.type "ArithmeticError", Value.type "Exception", Value.type "BaseException", Value.type "object"], ns := 56, qualname := Str.ofString "Undefined" }, slots := #[some (Value.ref 48), none, some (Value.str (Str.ofString "Undefined") 232), some (Value.str (Str.ofString "Undefined") 240), some (Value.builtin "ArithmeticError.__new__"), some (Value.bool true)] })]
def E2 (P : Params) : List (Nat × Obj) := [(0, PySem.W.boot_o_0 P),
  (1, PySem.W.boot_o_1 P),
  (2, { cls := Value.none, data := Data.dict #[{ hash := PyData.keyHash P (Str.ofString "type.__subclasses__.ArithmeticError.0"), key := Value.str (Str.ofString "type.__subclasses__.ArithmeticError.0") 248, val := Value.int 57 0 }, { hash := PyData.keyHash P (Str.ofString "type.__subclasses__.ArithmeticError.n"), key := Value.str (Str.ofString "type.__subclasses__.ArithmeticError.n") 249, val := Value.int 1 0 }] 2 }),
  (3, { cls := Value.type "dict", data := Data.dict #[{ hash := PyData.keyHash P (Str.ofString "__name__"), key := Value.str (Str.ofString "__name__") 165, val := Value.str (Str.ofString "exactstats.ratios") 641 }, { hash := PyData.keyHash P (Str.ofString "__doc__"), key := Value.str (Str.ofString "__doc__") 166, val := Value.none }, { hash := PyData.keyHash P (Str.ofString "__package__"), key := Value.str (Str.ofString "__package__") 167, val := Value.none }, { hash := PyData.keyHash P (Str.ofString "__loader__"), key := Value.str (Str.ofString "__loader__") 168, val := Value.builtin "__main__.__loader__#opaque" }, { hash := PyData.keyHash P (Str.ofString "__spec__"), key := Value.str (Str.ofString "__spec__") 169, val := Value.none }, { hash := PyData.keyHash P (Str.ofString "__annotations__"), key := Value.str (Str.ofString "__annotations__") 170, val := Value.ref 6 }, { hash := PyData.keyHash P (Str.ofString "__builtins__"), key := Value.str (Str.ofString "__builtins__") 171, val := Value.ref 4 }, { hash := PyData.keyHash P (Str.ofString "__file__"), key := Value.str (Str.ofString "__file__") 173, val := Value.str (Str.ofString "/claim/cut.py") 172 }, { hash := PyData.keyHash P (Str.ofString "__cached__"), key := Value.str (Str.ofString "__cached__") 174, val := Value.none }, { hash := PyData.keyHash P (Str.ofString "_wall"), key := Value.str (Str.ofString "_wall") 193, val := Value.ref 21 }, { hash := PyData.keyHash P (Str.ofString "BadInput"), key := Value.str (Str.ofString "BadInput") 213, val := Value.ref 31 }, { hash := PyData.keyHash P (Str.ofString "Absent"), key := Value.str (Str.ofString "Absent") 231, val := Value.ref 44 }, { hash := PyData.keyHash P (Str.ofString "Undefined"), key := Value.str (Str.ofString "Undefined") 251, val := Value.ref 57 }, { hash := PyData.keyHash P (Str.ofString "BadNumber"), key := Value.str (Str.ofString "BadNumber") 276, val := Value.ref 77 }, { hash := PyData.keyHash P (Str.ofString "BadSample"), key := Value.str (Str.ofString "BadSample") 301, val := Value.ref 97 }, { hash := PyData.keyHash P (Str.ofString "BadWeights"), key := Value.str (Str.ofString "BadWeights") 326, val := Value.ref 117 }, { hash := PyData.keyHash P (Str.ofString "BadPairs"), key := Value.str (Str.ofString "BadPairs") 351, val := Value.ref 137 }, { hash := PyData.keyHash P (Str.ofString "BadShare"), key := Value.str (Str.ofString "BadShare") 376, val := Value.ref 156 }, { hash := PyData.keyHash P (Str.ofString "BadRule"), key := Value.str (Str.ofString "BadRule") 401, val := Value.ref 175 }, { hash := PyData.keyHash P (Str.ofString "BadAmount"), key := Value.str (Str.ofString "BadAmount") 426, val := Value.ref 194 }, { hash := PyData.keyHash P (Str.ofString "BadEdges"), key := Value.str (Str.ofString "BadEdges") 451, val := Value.ref 214 }, { hash := PyData.keyHash P (Str.ofString "BadSummary"), key := Value.str (Str.ofString "BadSummary") 476, val := Value.ref 233 }, { hash := PyData.keyHash P (Str.ofString "Empty"), key := Value.str (Str.ofString "Empty") 492, val := Value.ref 245 }, { hash := PyData.keyHash P (Str.ofString "TooFew"), key := Value.str (Str.ofString "TooFew") 517, val := Value.ref 264 }, { hash := PyData.keyHash P (Str.ofString "NotThere"), key := Value.str (Str.ofString "NotThere") 542, val := Value.ref 283 }, { hash := PyData.keyHash P (Str.ofString "DividedByZero"), key := Value.str (Str.ofString "DividedByZero") 558, val := Value.ref 295 }, { hash := PyData.keyHash P (Str.ofString "NoSpread"), key := Value.str (Str.ofString "NoSpread") 574, val := Value.ref 307 }, { hash := PyData.keyHash P (Str.ofString "Impossible"), key := Value.str (Str.ofString "Impossible") 590, val := Value.ref 319 }, { hash := PyData.keyHash P (Str.ofString "Unbounded"), key := Value.str (Str.ofString "Unbounded") 606, val := Value.ref 331 }, { hash := PyData.keyHash P (Str.ofString "TooMany"), key := Value.str (Str.ofString "TooMany") 631, val := Value.ref 350 }, { hash := PyData.keyHash P (Str.ofString "is_integer"), key := Value.str (Str.ofString "is_integer") 640, val := Value.ref 359 }, { hash := PyData.keyHash P (Str.ofString "common_divisor"), key := Value.str (Str.ofString "common_divisor") 650, val := Value.ref 366 }, { hash := PyData.keyHash P (Str.ofString "Ratio"), key := Value.str (Str.ofString "Ratio") 903, val := Value.ref 556 }, { hash := PyData.keyHash P (Str.ofString "is_number"), key := Value.str (Str.ofString "is_number") 910, val := Value.ref 567 }, { hash := PyData.keyHash P (Str.ofString "is_number_ratios"), key := Value.str (Str.ofString "is_number_ratios") 911, val := Value.ref 567 }] 35 }),
  (4, PySem.W.boot_o_4 P),
  (5, PySem.W.boot_o_5 P),
  (6, PySem.W.boot_o_6 P),
  (7, PySem.W.boot_o_7 P),
  (8, PySem.W.boot_o_8 P),
  (9, PySem.W.boot_o_9 P),
  (10, PySem.W.boot_o_10 P),
  (11, { cls := Value.type "tuple", data := Data.seq #[] }),
  (12, { cls := Value.none, data := Data.fields #[Value.int 1 0, Value.int 0 0, Value.ref 20, Value.int 5 0, Value.int 0 0, Value.ref 27, Value.int 7 0, Value.int 0 0, Value.ref 40, Value.int 9 0, Value.int 0 0, Value.ref 53, Value.int 11 0, Value.int 0 0, Value.ref 66, Value.int 15 0, Value.int 0 0, Value.ref 85, Value.int 19 0, Value.int 0 0, Value.ref 105, Value.int 23 0, Value.int 0 0, Value.ref 125, Value.int 27 0, Value.int 0 0, Value.ref 145, Value.int 31 0, Value.int 0 0, Value.ref 164, Value.int 35 0, Value.int 0 0, Value.ref 183, Value.int 39 0, Value.int 0 0, Value.ref 202, Value.int 43 0, Value.int 0 0, Value.ref 222, Value.int 47 0, Value.int 0 0, Value.ref 241, Value.int 49 0, Value.int 0 0, Value.ref 253, Value.int 53 0, Value.int 0 0, Value.ref 272, Value.int 57 0, Value.int 0 0, Value.ref 291, Value.int 59 0, Value.int 0 0, Value.ref 303, Value.int 61 0, Value.int 0 0, Value.ref 315, Value.int 63 0, Value.int 0 0, Value.ref 327, Value.int 65 0, Value.int 0 0, Value.ref 339, Value.int 70 0, Value.int 0 0, Value.ref 358, Value.int 73 0, Value.int 0 0, Value.ref 365, Value.int 78 0, Value.int 0 0, Value.ref 372, Value.int 177 0, Value.int 0 0, Value.ref 566] }),
  (13, { cls := Value.type "code", data := Data.fields #[Value.str (Str.ofString "<module>") 182, Value.str (Str.ofString "<module>") 183, Value.str (Str.ofString "/claim/cut.py") 184, Value.int 1 0, Value.int 0 0, Value.int 0 0, Value.int 0 0, Value.int 0 0, Value.ref 11, Value.bool false, Value.int 181 0, Value.ref 12, Value.none, Value.none, Value.none, Value.none, Value.int 185 0, Value.int 1 0, Value.str (Str.ofString "/claim/cut.py") 186] }),
  (14, { cls := Value.type "frame", slots := #[some (Value.ref 13), some (Value.ref 3), some (Value.ref 3), none, some (Value.str (Str.ofString "__main__") 164), none, some (Value.ref 0)] }),
  (43, { cls := Value.type "dict", data := Data.dict #[{ hash := PyData.keyHash P (Str.ofString "__module__"), key := Value.str (Str.ofString "__module__") 221, val := Value.str (Str.ofString "exactstats.errors") 194 }, { hash := PyData.keyHash P (Str.ofString "__firstlineno__"), key := Value.str (Str.ofString "__firstlineno__") 225, val := Value.int 7 224 }, { hash := PyData.keyHash P (Str.ofString "__static_attributes__"), key := Value.str (Str.ofString "__static_attributes__") 226, val := Value.ref 42 }, { hash := PyData.keyHash P (Str.ofString "__weakref__"), key := Value.str (Str.ofString "__weakref__") 228, val := Value.ref 45 }, { hash := PyData.keyHash P (Str.ofString "__doc__"), key := Value.str (Str.ofString "__doc__") 229, val := Value.none }] 3 }),
  (44, { cls := Value.type "type", data := Data.cls { name := Str.ofString "Absent", bases := [Value.type "LookupError"], mro := [Value.ref 44, Value.type "LookupError", Value.type "Exception", Value.type "BaseException", Value.type "object"], ns := 43, qualname := Str.ofString "Absent", subclasses := [Value.ref 245, Value.ref 264, Value.ref 283] }, slots := #[some (Value.ref 35), none, some (Value.str (Str.ofString "Absent") 214), some (Value.str (Str.ofString "Absent") 222), some (Value.builtin "LookupError.__new__"), some (Value.bool true)] }),
  (56, { cls := Value.type "dict", data := Data.dict #[{ hash := PyData.keyHash P (Str.ofString "__module__"), key := Value.str (Str.ofString "__module__") 239, val := Value.str (Str.ofString "exactstats.errors") 194 }, { hash := PyData.keyHash P (Str.ofString "__firstlineno__"), key := Value.str (Str.ofString "__firstlineno__") 243, val := Value.int 9 242 }, { hash := PyData.keyHash P (Str.ofString "__static_attributes__"), key := Value.str (Str.ofString "__static_attributes__") 244, val := Value.ref 55 }, { hash := PyData.keyHash P (Str.ofString "__weakref__"), key := Value.str (Str.ofString "__weakref__") 246, val := Value.ref 58 }, { hash := PyData.keyHash P (Str.ofString "__doc__"), key := Value.str (Str.ofString "__doc__") 247, val := Value.none }] 3 }),
  (57, { cls := Value.type "type", data := Data.cls { name := Str.ofString "Undefined", bases := [Value.type "ArithmeticError"], mro := [Value.ref 57, Value.type "ArithmeticError", Value.type "Exception", Value.type "BaseException", Value.type "object"], ns := 56, qualname := Str.ofString "Undefined", subclasses := [Value.ref 295, Value.ref 307, Value.ref 319, Value.ref 331, Value.ref 350] }, slots := #[some (Value.ref 48), none, some (Value.str (Str.ofString "Undefined") 232), some (Value.str (Str.ofString "Undefined") 240), some (Value.builtin "ArithmeticError.__new__"), some (Value.bool true)] })]
def E3 (P : Params) : List (Nat × Obj) := [(0, PySem.W.boot_o_0 P),
  (1, PySem.W.boot_o_1 P),
  (2, { cls := Value.none, data := Data.dict #[{ hash := PyData.keyHash P (Str.ofString "type.__subclasses__.ArithmeticError.0"), key := Value.str (Str.ofString "type.__subclasses__.ArithmeticError.0") 248, val := Value.int 57 0 }, { hash := PyData.keyHash P (Str.ofString "type.__subclasses__.ArithmeticError.n"), key := Value.str (Str.ofString "type.__subclasses__.ArithmeticError.n") 249, val := Value.int 1 0 }] 2 }),
  (3, { cls := Value.type "dict", data := Data.dict #[{ hash := PyData.keyHash P (Str.ofString "__name__"), key := Value.str (Str.ofString "__name__") 165, val := Value.str (Str.ofString "law_exactstats_k30_middle_lines") 1102 }, { hash := PyData.keyHash P (Str.ofString "__doc__"), key := Value.str (Str.ofString "__doc__") 166, val := Value.none }, { hash := PyData.keyHash P (Str.ofString "__package__"), key := Value.str (Str.ofString "__package__") 167, val := Value.none }, { hash := PyData.keyHash P (Str.ofString "__loader__"), key := Value.str (Str.ofString "__loader__") 168, val := Value.builtin "__main__.__loader__#opaque" }, { hash := PyData.keyHash P (Str.ofString "__spec__"), key := Value.str (Str.ofString "__spec__") 169, val := Value.none }, { hash := PyData.keyHash P (Str.ofString "__annotations__"), key := Value.str (Str.ofString "__annotations__") 170, val := Value.ref 6 }, { hash := PyData.keyHash P (Str.ofString "__builtins__"), key := Value.str (Str.ofString "__builtins__") 171, val := Value.ref 4 }, { hash := PyData.keyHash P (Str.ofString "__file__"), key := Value.str (Str.ofString "__file__") 173, val := Value.str (Str.ofString "/claim/cut.py") 172 }, { hash := PyData.keyHash P (Str.ofString "__cached__"), key := Value.str (Str.ofString "__cached__") 174, val := Value.none }, { hash := PyData.keyHash P (Str.ofString "_wall"), key := Value.str (Str.ofString "_wall") 193, val := Value.ref 21 }, { hash := PyData.keyHash P (Str.ofString "BadInput"), key := Value.str (Str.ofString "BadInput") 213, val := Value.ref 31 }, { hash := PyData.keyHash P (Str.ofString "Absent"), key := Value.str (Str.ofString "Absent") 231, val := Value.ref 44 }, { hash := PyData.keyHash P (Str.ofString "Undefined"), key := Value.str (Str.ofString "Undefined") 251, val := Value.ref 57 }, { hash := PyData.keyHash P (Str.ofString "BadNumber"), key := Value.str (Str.ofString "BadNumber") 276, val := Value.ref 77 }, { hash := PyData.keyHash P (Str.ofString "BadSample"), key := Value.str (Str.ofString "BadSample") 301, val := Value.ref 97 }, { hash := PyData.keyHash P (Str.ofString "BadWeights"), key := Value.str (Str.ofString "BadWeights") 326, val := Value.ref 117 }, { hash := PyData.keyHash P (Str.ofString "BadPairs"), key := Value.str (Str.ofString "BadPairs") 351, val := Value.ref 137 }, { hash := PyData.keyHash P (Str.ofString "BadShare"), key := Value.str (Str.ofString "BadShare") 376, val := Value.ref 156 }, { hash := PyData.keyHash P (Str.ofString "BadRule"), key := Value.str (Str.ofString "BadRule") 401, val := Value.ref 175 }, { hash := PyData.keyHash P (Str.ofString "BadAmount"), key := Value.str (Str.ofString "BadAmount") 426, val := Value.ref 194 }, { hash := PyData.keyHash P (Str.ofString "BadEdges"), key := Value.str (Str.ofString "BadEdges") 451, val := Value.ref 214 }, { hash := PyData.keyHash P (Str.ofString "BadSummary"), key := Value.str (Str.ofString "BadSummary") 476, val := Value.ref 233 }, { hash := PyData.keyHash P (Str.ofString "Empty"), key := Value.str (Str.ofString "Empty") 492, val := Value.ref 245 }, { hash := PyData.keyHash P (Str.ofString "TooFew"), key := Value.str (Str.ofString "TooFew") 517, val := Value.ref 264 }, { hash := PyData.keyHash P (Str.ofString "NotThere"), key := Value.str (Str.ofString "NotThere") 542, val := Value.ref 283 }, { hash := PyData.keyHash P (Str.ofString "DividedByZero"), key := Value.str (Str.ofString "DividedByZero") 558, val := Value.ref 295 }, { hash := PyData.keyHash P (Str.ofString "NoSpread"), key := Value.str (Str.ofString "NoSpread") 574, val := Value.ref 307 }, { hash := PyData.keyHash P (Str.ofString "Impossible"), key := Value.str (Str.ofString "Impossible") 590, val := Value.ref 319 }, { hash := PyData.keyHash P (Str.ofString "Unbounded"), key := Value.str (Str.ofString "Unbounded") 606, val := Value.ref 331 }, { hash := PyData.keyHash P (Str.ofString "TooMany"), key := Value.str (Str.ofString "TooMany") 631, val := Value.ref 350 }, { hash := PyData.keyHash P (Str.ofString "is_integer"), key := Value.str (Str.ofString "is_integer") 640, val := Value.ref 359 }, { hash := PyData.keyHash P (Str.ofString "common_divisor"), key := Value.str (Str.ofString "common_divisor") 650, val := Value.ref 366 }, { hash := PyData.keyHash P (Str.ofString "Ratio"), key := Value.str (Str.ofString "Ratio") 903, val := Value.ref 556 }, { hash := PyData.keyHash P (Str.ofString "is_number"), key := Value.str (Str.ofString "is_number") 910, val := Value.ref 567 }, { hash := PyData.keyHash P (Str.ofString "is_number_ratios"), key := Value.str (Str.ofString "is_number_ratios") 911, val := Value.ref 567 }, { hash := PyData.keyHash P (Str.ofString "need_number"), key := Value.str (Str.ofString "need_number") 918, val := Value.ref 574 }, { hash := PyData.keyHash P (Str.ofString "ratio_of"), key := Value.str (Str.ofString "ratio_of") 925, val := Value.ref 581 }, { hash := PyData.keyHash P (Str.ofString "is_less"), key := Value.str (Str.ofString "is_less") 933, val := Value.ref 588 }, { hash := PyData.keyHash P (Str.ofString "common"), key := Value.str (Str.ofString "common") 939, val := Value.ref 593 }, { hash := PyData.keyHash P (Str.ofString "ordered"), key := Value.str (Str.ofString "ordered") 945, val := Value.ref 598 }, { hash := PyData.keyHash P (Str.ofString "total"), key := Value.str (Str.ofString "total") 954, val := Value.ref 605 }, { hash := PyData.keyHash P (Str.ofString "MOST_ITEMS"), key := Value.str (Str.ofString "MOST_ITEMS") 958, val := Value.int 1000 957 }, { hash := PyData.keyHash P (Str.ofString "is_row"), key := Value.str (Str.ofString "is_row") 965, val := Value.ref 612 }, { hash := PyData.keyHash P (Str.ofString "need_items"), key := Value.str (Str.ofString "need_items") 972, val := Value.ref 619 }, { hash := PyData.keyHash P (Str.ofString "mean_of"), key := Value.str (Str.ofString "mean_of") 981, val := Value.ref 626 }, { hash := PyData.keyHash P (Str.ofString "median_of"), key := Value.str (Str.ofString "median_of") 989, val := Value.ref 633 }, { hash := PyData.keyHash P (Str.ofString "MOST_MIDDLE"), key := Value.str (Str.ofString "MOST_MIDDLE") 993, val := Value.int 40 992 }, { hash := PyData.keyHash P (Str.ofString "is_pair"), key := Value.str (Str.ofString "is_pair") 1000, val := Value.ref 640 }, { hash := PyData.keyHash P (Str.ofString "need_pairs"), key := Value.str (Str.ofString "need_pairs") 1006, val := Value.ref 645 }, { hash := PyData.keyHash P (Str.ofString "joined"), key := Value.str (Str.ofString "joined") 1017, val := Value.ref 652 }, { hash := PyData.keyHash P (Str.ofString "arranged"), key := Value.str (Str.ofString "arranged") 1023, val := Value.ref 657 }, { hash := PyData.keyHash P (Str.ofString "middle_line"), key := Value.str (Str.ofString "middle_line") 1029, val := Value.ref 662 }, { hash := PyData.keyHash P (Str.ofString "Line"), key := Value.str (Str.ofString "Line") 1101, val := Value.ref 716 }, { hash := PyData.keyHash P (Str.ofString "_law_source"), key := Value.str (Str.ofString "_law_source") 1112, val := Value.ref 727 }, { hash := PyData.keyHash P (Str.ofString "_law_next"), key := Value.str (Str.ofString "_law_next") 1123, val := Value.ref 734 }, { hash := PyData.keyHash P (Str.ofString "_law_mixed"), key := Value.str (Str.ofString "_law_mixed") 1133, val := Value.ref 741 }, { hash := PyData.keyHash P (Str.ofString "_law_pick"), key := Value.str (Str.ofString "_law_pick") 1141, val := Value.ref 748 }, { hash := PyData.keyHash P (Str.ofString "_law_low"), key := Value.str (Str.ofString "_law_low") 1151, val := Value.ref 755 }, { hash := PyData.keyHash P (Str.ofString "_law_plus"), key := Value.str (Str.ofString "_law_plus") 1159, val := Value.ref 762 }, { hash := PyData.keyHash P (Str.ofString "_law_minus"), key := Value.str (Str.ofString "_law_minus") 1167, val := Value.ref 769 }, { hash := PyData.keyHash P (Str.ofString "_law_times"), key := Value.str (Str.ofString "_law_times") 1175, val := Value.ref 776 }, { hash := PyData.keyHash P (Str.ofString "_law_through"), key := Value.str (Str.ofString "_law_through") 1183, val := Value.ref 783 }, { hash := PyData.keyHash P (Str.ofString "_law_below"), key := Value.str (Str.ofString "_law_below") 1191, val := Value.ref 790 }, { hash := PyData.keyHash P (Str.ofString "_law_sorted"), key := Value.str (Str.ofString "_law_sorted") 1197, val := Value.ref 795 }, { hash := PyData.keyHash P (Str.ofString "_law_drawn"), key := Value.str (Str.ofString "_law_drawn") 1205, val := Value.ref 802 }, { hash := PyData.keyHash P (Str.ofString "_law_given"), key := Value.str (Str.ofString "_law_given") 1211, val := Value.ref 807 }, { hash := PyData.keyHash P (Str.ofString "_law_taken"), key := Value.str (Str.ofString "_law_taken") 1218, val := Value.ref 814 }, { hash := PyData.keyHash P (Str.ofString "_law_word"), key := Value.str (Str.ofString "_law_word") 1224, val := Value.ref 819 }, { hash := PyData.keyHash P (Str.ofString "_law_told"), key := Value.str (Str.ofString "_law_told") 1234, val := Value.ref 826 }, { hash := PyData.keyHash P (Str.ofString "_law_middle"), key := Value.str (Str.ofString "_law_middle") 1242, val := Value.ref 833 }, { hash := PyData.keyHash P (Str.ofString "_law_dots"), key := Value.str (Str.ofString "_law_dots") 1255, val := Value.ref 840 }, { hash := PyData.keyHash P (Str.ofString "_law_paired"), key := Value.str (Str.ofString "_law_paired") 1261, val := Value.ref 845 }, { hash := PyData.keyHash P (Str.ofString "_law_seen"), key := Value.str (Str.ofString "_law_seen") 1268, val := Value.ref 852 }, { hash := PyData.keyHash P (Str.ofString "_law_kept"), key := Value.str (Str.ofString "_law_kept") 1274, val := Value.ref 857 }, { hash := PyData.keyHash P (Str.ofString "_law_half"), key := Value.str (Str.ofString "_law_half") 1281, val := Value.ref 864 }, { hash := PyData.keyHash P (Str.ofString "_law_due"), key := Value.str (Str.ofString "_law_due") 1287, val := Value.ref 869 }, { hash := PyData.keyHash P (Str.ofString "_law_right"), key := Value.str (Str.ofString "_law_right") 1293, val := Value.ref 874 }, { hash := PyData.keyHash P (Str.ofString "_law_moved_right"), key := Value.str (Str.ofString "_law_moved_right") 1299, val := Value.ref 879 }, { hash := PyData.keyHash P (Str.ofString "law"), key := Value.str (Str.ofString "law") 1305, val := Value.ref 884 }] 79 }),
  (4, PySem.W.boot_o_4 P),
  (5, PySem.W.boot_o_5 P),
  (6, PySem.W.boot_o_6 P),
  (7, PySem.W.boot_o_7 P),
  (8, PySem.W.boot_o_8 P),
  (9, PySem.W.boot_o_9 P),
  (10, PySem.W.boot_o_10 P),
  (11, { cls := Value.type "tuple", data := Data.seq #[] }),
  (12, { cls := Value.none, data := Data.fields #[Value.int 1 0, Value.int 0 0, Value.ref 20, Value.int 5 0, Value.int 0 0, Value.ref 27, Value.int 7 0, Value.int 0 0, Value.ref 40, Value.int 9 0, Value.int 0 0, Value.ref 53, Value.int 11 0, Value.int 0 0, Value.ref 66, Value.int 15 0, Value.int 0 0, Value.ref 85, Value.int 19 0, Value.int 0 0, Value.ref 105, Value.int 23 0, Value.int 0 0, Value.ref 125, Value.int 27 0, Value.int 0 0, Value.ref 145, Value.int 31 0, Value.int 0 0, Value.ref 164, Value.int 35 0, Value.int 0 0, Value.ref 183, Value.int 39 0, Value.int 0 0, Value.ref 202, Value.int 43 0, Value.int 0 0, Value.ref 222, Value.int 47 0, Value.int 0 0, Value.ref 241, Value.int 49 0, Value.int 0 0, Value.ref 253, Value.int 53 0, Value.int 0 0, Value.ref 272, Value.int 57 0, Value.int 0 0, Value.ref 291, Value.int 59 0, Value.int 0 0, Value.ref 303, Value.int 61 0, Value.int 0 0, Value.ref 315, Value.int 63 0, Value.int 0 0, Value.ref 327, Value.int 65 0, Value.int 0 0, Value.ref 339, Value.int 70 0, Value.int 0 0, Value.ref 358, Value.int 73 0, Value.int 0 0, Value.ref 365, Value.int 78 0, Value.int 0 0, Value.ref 372, Value.int 177 0, Value.int 0 0, Value.ref 566, Value.int 180 0, Value.int 0 0, Value.ref 573, Value.int 183 0, Value.int 0 0, Value.ref 580, Value.int 185 0, Value.int 0 0, Value.ref 587, Value.int 187 0, Value.int 0 0, Value.ref 592, Value.int 192 0, Value.int 0 0, Value.ref 597, Value.int 195 0, Value.int 0 0, Value.ref 604, Value.int 200 0, Value.int 0 0, Value.ref 611, Value.int 202 0, Value.int 0 0, Value.ref 618, Value.int 206 0, Value.int 0 0, Value.ref 625, Value.int 208 0, Value.int 0 0, Value.ref 632, Value.int 213 0, Value.int 0 0, Value.ref 639, Value.int 215 0, Value.int 0 0, Value.ref 644, Value.int 222 0, Value.int 0 0, Value.ref 651, Value.int 230 0, Value.int 0 0, Value.ref 656, Value.int 236 0, Value.int 0 0, Value.ref 661, Value.int 248 0, Value.int 0 0, Value.ref 668, Value.int 275 0, Value.int 0 0, Value.ref 726, Value.int 278 0, Value.int 0 0, Value.ref 733, Value.int 287 0, Value.int 0 0, Value.ref 740, Value.int 292 0, Value.int 0 0, Value.ref 747, Value.int 294 0, Value.int 0 0, Value.ref 754, Value.int 299 0, Value.int 0 0, Value.ref 761, Value.int 301 0, Value.int 0 0, Value.ref 768, Value.int 303 0, Value.int 0 0, Value.ref 775, Value.int 305 0, Value.int 0 0, Value.ref 782, Value.int 307 0, Value.int 0 0, Value.ref 789, Value.int 309 0, Value.int 0 0, Value.ref 794, Value.int 315 0, Value.int 0 0, Value.ref 801, Value.int 320 0, Value.int 0 0, Value.ref 806, Value.int 322 0, Value.int 0 0, Value.ref 813, Value.int 324 0, Value.int 0 0, Value.ref 818, Value.int 341 0, Value.int 0 0, Value.ref 825, Value.int 348 0, Value.int 0 0, Value.ref 832, Value.int 350 0, Value.int 0 0, Value.ref 839, Value.int 357 0, Value.int 0 0, Value.ref 844, Value.int 359 0, Value.int 0 0, Value.ref 851, Value.int 361 0, Value.int 0 0, Value.ref 856, Value.int 363 0, Value.int 0 0, Value.ref 863, Value.int 366 0, Value.int 0 0, Value.ref 868, Value.int 377 0, Value.int 0 0, Value.ref 873, Value.int 386 0, Value.int 0 0, Value.ref 878, Value.int 393 0, Value.int 0 0, Value.ref 883] }),
  (13, { cls := Value.type "code", data := Data.fields #[Value.str (Str.ofString "<module>") 182, Value.str (Str.ofString "<module>") 183, Value.str (Str.ofString "/claim/cut.py") 184, Value.int 1 0, Value.int 0 0, Value.int 0 0, Value.int 0 0, Value.int 0 0, Value.ref 11, Value.bool false, Value.int 181 0, Value.ref 12, Value.none, Value.none, Value.none, Value.none, Value.int 185 0, Value.int 1 0, Value.str (Str.ofString "/claim/cut.py") 186] }),
  (14, { cls := Value.type "frame", slots := #[some (Value.ref 13), some (Value.ref 3), some (Value.ref 3), none, some (Value.str (Str.ofString "__main__") 164), none, some (Value.ref 0)] }),
  (43, { cls := Value.type "dict", data := Data.dict #[{ hash := PyData.keyHash P (Str.ofString "__module__"), key := Value.str (Str.ofString "__module__") 221, val := Value.str (Str.ofString "exactstats.errors") 194 }, { hash := PyData.keyHash P (Str.ofString "__firstlineno__"), key := Value.str (Str.ofString "__firstlineno__") 225, val := Value.int 7 224 }, { hash := PyData.keyHash P (Str.ofString "__static_attributes__"), key := Value.str (Str.ofString "__static_attributes__") 226, val := Value.ref 42 }, { hash := PyData.keyHash P (Str.ofString "__weakref__"), key := Value.str (Str.ofString "__weakref__") 228, val := Value.ref 45 }, { hash := PyData.keyHash P (Str.ofString "__doc__"), key := Value.str (Str.ofString "__doc__") 229, val := Value.none }] 3 }),
  (44, { cls := Value.type "type", data := Data.cls { name := Str.ofString "Absent", bases := [Value.type "LookupError"], mro := [Value.ref 44, Value.type "LookupError", Value.type "Exception", Value.type "BaseException", Value.type "object"], ns := 43, qualname := Str.ofString "Absent", subclasses := [Value.ref 245, Value.ref 264, Value.ref 283] }, slots := #[some (Value.ref 35), none, some (Value.str (Str.ofString "Absent") 214), some (Value.str (Str.ofString "Absent") 222), some (Value.builtin "LookupError.__new__"), some (Value.bool true)] }),
  (56, { cls := Value.type "dict", data := Data.dict #[{ hash := PyData.keyHash P (Str.ofString "__module__"), key := Value.str (Str.ofString "__module__") 239, val := Value.str (Str.ofString "exactstats.errors") 194 }, { hash := PyData.keyHash P (Str.ofString "__firstlineno__"), key := Value.str (Str.ofString "__firstlineno__") 243, val := Value.int 9 242 }, { hash := PyData.keyHash P (Str.ofString "__static_attributes__"), key := Value.str (Str.ofString "__static_attributes__") 244, val := Value.ref 55 }, { hash := PyData.keyHash P (Str.ofString "__weakref__"), key := Value.str (Str.ofString "__weakref__") 246, val := Value.ref 58 }, { hash := PyData.keyHash P (Str.ofString "__doc__"), key := Value.str (Str.ofString "__doc__") 247, val := Value.none }] 3 }),
  (57, { cls := Value.type "type", data := Data.cls { name := Str.ofString "Undefined", bases := [Value.type "ArithmeticError"], mro := [Value.ref 57, Value.type "ArithmeticError", Value.type "Exception", Value.type "BaseException", Value.type "object"], ns := 56, qualname := Str.ofString "Undefined", subclasses := [Value.ref 295, Value.ref 307, Value.ref 319, Value.ref 331, Value.ref 350] }, slots := #[some (Value.ref 48), none, some (Value.str (Str.ofString "Undefined") 232), some (Value.str (Str.ofString "Undefined") 240), some (Value.builtin "ArithmeticError.__new__"), some (Value.bool true)] })]
def pre (w : World) (os : OsState) := goT (stQ PR w) n00 an0 12 (boot0 w os) (topStub PR)
theorem c_pre (w : World) (os : OsState) : pre w os = some (preS os (pre w os), ⟨HandSHeadRun.denQ HandSHeadRun.tabQ (.body bd env), cE, { line := 0, col := 0, endLine := 0, endCol := 0 }, [topFrame fp]⟩) := by kernel_rfl
def blk (w : World) (os : OsState) : Seg := segF (stQ PR w) n00 an0 1 (preS os (pre w os)) (blkT bd env cE { line := 0, col := 0, endLine := 0, endCol := 0 } fp)
theorem c_blk (w : World) (os : OsState) : blk w os = some (.next, segS os (blk w os), cE, { line := 0, col := 0, endLine := 0, endCol := 0 }) := by kernel_rfl
def r1 (w : World) (os : OsState) : Seg := segF (stQ PR w) n00 an0 3029 (segS os (blk w os)) (pcsT l1 env cE { line := 0, col := 0, endLine := 0, endCol := 0 } fp)
def x1 (w : World) (os : OsState) : Nat → Obj := objAt 1 (r1 w os)
theorem c1 (w : World) (os : OsState) : r1 w os = some (.next, stV 1 (E1 w.params) (x1 w os) 248 493 os, cE, { line := 47, col := 0, endLine := 48, endCol := 8 }) := by kernel_rfl
def r2 (x : Nat → Obj) (w : World) (os : OsState) : Seg := segF (stQ PR w) n00 an0 3182 (stV 1 (E1 w.params) x 248 493 os) (pcsT l2 env cE { line := 47, col := 0, endLine := 48, endCol := 8 } fp)
theorem c2 (x : Nat → Obj) (w : World) (os : OsState) : r2 x w os = some (.next, stV 2 (E2 w.params) (nxV 2 248 (r2 x w os) x) 568 912 os, cE, { line := 179, col := 0, endLine := 179, endCol := 16 }) := by kernel_rfl
def x2 (w : World) (os : OsState) : Nat → Obj := nxV 2 248 (r2 (x1 w os) w os) (x1 w os)
def r3 (x : Nat → Obj) (w : World) (os : OsState) : Seg := segF (stQ PR w) n00 an0 1743 (stV 2 (E2 w.params) x 568 912 os) (pcsT l3 env cE { line := 179, col := 0, endLine := 179, endCol := 16 } fp)
theorem c3 (x : Nat → Obj) (w : World) (os : OsState) : r3 x w os = some (.next, stV 3 (E3 w.params) (nxV 3 568 (r3 x w os) x) 885 1306 os, cE, { line := 393, col := 0, endLine := 404, endCol := 86 }) := by kernel_rfl
def x3 (w : World) (os : OsState) : Nat → Obj := nxV 3 568 (r3 (x2 w os) w os) (x2 w os)
def fi (w : World) (os : OsState) := HandSHeadRun.goF (stQ PR w) n00 an0 21 (stV 3 (E3 w.params) (x3 w os) 885 1306 os) ⟨doneF .next, cE, { line := 393, col := 0, endLine := 404, endCol := 86 }, [topFrame fp]⟩
def S (w : World) (os : OsState) : SharedT := finS os (fi w os)
theorem c_fin (w : World) (os : OsState) : fi w os = some (S w os) := by kernel_rfl
theorem run (w : World) (os : OsState) : topRun treeTable PR w n00 an0 (12 + (1 + (3029 + (3182 + (1743 + (21)))))) (boot0 w os).abs (topStub PR) = some (S w os).abs := by
  have h := cut_piece (c1 w os) (cut_piece (c2 (x1 w os) w os) (cut_piece (c3 (x2 w os) w os) (cut_end (c_fin w os))))
  rw [← split] at h
  exact cut_pre (c_pre w os) (cut_block (c_blk w os) h)
theorem k1 (w : World) (os : OsState) : HandSHeadRun.looksF PR (boot_heap w.params) (S w os).abs = true := by kernel_rfl
theorem k2 (w : World) (os : OsState) : HandSHeadRun.seenQ (PySem.W.view PR [76]) loose (importedModules PR.main.body) (fun s => xlAt (PySem.W.view PR [76]) [] s && recOk R.toRowW.records s) (S w os).abs = openGood (PySem.W.view PR [76]) loose := by kernel_rfl
def as_ : List Addr := ([3, 0, 1, 2, 6, 24, 30, 31, 37, 43, 44, 50, 56, 57, 63, 76, 77, 82, 96, 97, 102, 116, 117, 122, 136, 137, 142, 155, 156, 161, 174, 175, 180, 193, 194, 199, 213, 214, 219, 232, 233, 238, 244, 245, 250, 263, 264, 269, 282, 283, 288, 294, 295, 300, 306, 307, 312, 318, 319, 324] : List Addr) ++ ([330, 331, 336, 349, 350, 369, 389, 391, 399, 401, 409, 411, 555, 556, 665, 715, 716, 21, 74, 94, 114, 134, 153, 172, 191, 211, 230, 261, 280, 347, 359, 366, 381, 388, 398, 408, 418, 426, 434, 441, 448, 455, 462, 469, 476, 483, 490, 497, 504, 511, 518, 525, 532, 539, 546, 553, 567, 574, 581, 588] : List Addr) ++ ([593, 598, 605, 612, 619, 626, 633, 640, 645, 652, 657, 662, 676, 683, 691, 699, 706, 713, 727, 734, 741, 748, 755, 762, 769, 776, 783, 790, 795, 802, 807, 814, 819, 826, 833, 840, 845, 852, 857, 864, 869, 874, 879, 884, 9, 13, 20, 27, 40, 53, 66, 73, 85, 93, 105, 113, 125, 133, 145, 152] : List Addr) ++ ([164, 171, 183, 190, 202, 210, 222, 229, 241, 253, 260, 272, 279, 291, 303, 315, 327, 339, 346, 358, 365, 372, 380, 387, 397, 407, 417, 425, 433, 440, 447, 454, 461, 468, 475, 482, 489, 496, 503, 510, 517, 524, 531, 538, 545, 552, 566, 573, 580, 587, 592, 597, 604, 611, 618, 625, 632, 639, 644, 651] : List Addr) ++ ([656, 661, 668, 675, 682, 690, 698, 705, 712, 726, 733, 740, 747, 754, 761, 768, 775, 782, 789, 794, 801, 806, 813, 818, 825, 832, 839, 844, 851, 856, 863, 868, 873, 878, 883, 4, 5, 7, 11, 15, 17, 18, 22, 25, 29, 32, 35, 38, 42, 45, 48, 51, 55, 58, 61, 64, 68, 70, 71, 75] : List Addr) ++ ([80, 83, 87, 88, 90, 91, 95, 100, 103, 107, 108, 110, 111, 115, 120, 123, 127, 128, 130, 131, 135, 140, 143, 147, 149, 150, 154, 159, 162, 166, 168, 169, 173, 178, 181, 185, 187, 188, 192, 197, 200, 204, 205, 207, 208, 212, 217, 220, 224, 226, 227, 231, 236, 239, 243, 248, 251, 255, 257, 258] : List Addr) ++ ([262, 267, 270, 274, 276, 277, 281, 286, 289, 293, 298, 301, 305, 310, 313, 317, 322, 325, 329, 334, 337, 341, 343, 344, 348, 353, 355, 356, 360, 362, 363, 367, 370, 374, 375, 377, 378, 382, 384, 385, 390, 392, 394, 395, 400, 402, 404, 405, 410, 412, 414, 415, 419, 420, 422, 423, 427, 428, 430, 431] : List Addr) ++ ([435, 437, 438, 442, 444, 445, 449, 451, 452, 456, 458, 459, 463, 465, 466, 470, 472, 473, 477, 479, 480, 484, 486, 487, 491, 493, 494, 498, 500, 501, 505, 507, 508, 512, 514, 515, 519, 521, 522, 526, 528, 529, 533, 535, 536, 540, 542, 543, 547, 549, 550, 554, 557, 558, 561, 563, 564, 568, 570, 571] : List Addr) ++ ([575, 577, 578, 582, 584, 585, 589, 594, 599, 601, 602, 606, 608, 609, 613, 615, 616, 620, 622, 623, 627, 629, 630, 634, 636, 637, 641, 646, 648, 649, 653, 658, 663, 666, 670, 672, 673, 677, 679, 680, 684, 685, 687, 688, 692, 693, 695, 696, 700, 702, 703, 707, 709, 710, 714, 717, 718, 721, 723, 724] : List Addr) ++ ([728, 730, 731, 735, 737, 738, 742, 744, 745, 749, 751, 752, 756, 758, 759, 763, 765, 766, 770, 772, 773, 777, 779, 780, 784, 786, 787, 791, 796, 798, 799, 803, 808, 810, 811, 815, 820, 822, 823, 827, 829, 830, 834, 836, 837, 841, 846, 848, 849, 853, 858, 860, 861, 865, 870, 875, 880] : List Addr)
def pa : List Nat := ([1, 1, 1, 1, 1, 1, 1, 1, 1, 1, 1, 1, 1, 1, 1, 1, 1, 1, 1, 1, 1, 1, 1, 1, 1, 1, 1, 1, 1, 1, 1, 1, 1, 1, 1, 1, 1, 1, 1, 1, 1, 1, 1, 1, 2, 2, 2, 2, 2, 2, 2, 2, 2, 2, 2, 2, 2, 2, 2, 2] : List Nat) ++ ([2, 2, 2, 2, 2, 2, 2, 2, 2, 2, 2, 2, 2, 2, 3, 3, 3, 1, 1, 1, 1, 1, 1, 1, 1, 1, 1, 2, 2, 2, 2, 2, 2, 2, 2, 2, 2, 2, 2, 2, 2, 2, 2, 2, 2, 2, 2, 2, 2, 2, 2, 2, 2, 2, 2, 2, 2, 3, 3, 3] : List Nat) ++ ([3, 3, 3, 3, 3, 3, 3, 3, 3, 3, 3, 3, 3, 3, 3, 3, 3, 3, 3, 3, 3, 3, 3, 3, 3, 3, 3, 3, 3, 3, 3, 3, 3, 3, 3, 3, 3, 3, 3, 3, 3, 3, 3, 3, 1, 1, 1, 1, 1, 1, 1, 1, 1, 1, 1, 1, 1, 1, 1, 1] : List Nat) ++ ([1, 1, 1, 1, 1, 1, 1, 1, 1, 2, 2, 2, 2, 2, 2, 2, 2, 2, 2, 2, 2, 2, 2, 2, 2, 2, 2, 2, 2, 2, 2, 2, 2, 2, 2, 2, 2, 2, 2, 2, 2, 2, 2, 2, 2, 2, 2, 3, 3, 3, 3, 3, 3, 3, 3, 3, 3, 3, 3, 3] : List Nat) ++ ([3, 3, 3, 3, 3, 3, 3, 3, 3, 3, 3, 3, 3, 3, 3, 3, 3, 3, 3, 3, 3, 3, 3, 3, 3, 3, 3, 3, 3, 3, 3, 3, 3, 3, 3, 1, 1, 1, 1, 1, 1, 1, 1, 1, 1, 1, 1, 1, 1, 1, 1, 1, 1, 1, 1, 1, 1, 1, 1, 1] : List Nat) ++ ([1, 1, 1, 1, 1, 1, 1, 1, 1, 1, 1, 1, 1, 1, 1, 1, 1, 1, 1, 1, 1, 1, 1, 1, 1, 1, 1, 1, 1, 1, 1, 1, 1, 1, 1, 1, 1, 1, 1, 1, 1, 1, 1, 1, 1, 1, 1, 1, 1, 1, 1, 1, 1, 1, 1, 2, 2, 2, 2, 2] : List Nat) ++ ([2, 2, 2, 2, 2, 2, 2, 2, 2, 2, 2, 2, 2, 2, 2, 2, 2, 2, 2, 2, 2, 2, 2, 2, 2, 2, 2, 2, 2, 2, 2, 2, 2, 2, 2, 2, 2, 2, 2, 2, 2, 2, 2, 2, 2, 2, 2, 2, 2, 2, 2, 2, 2, 2, 2, 2, 2, 2, 2, 2] : List Nat) ++ ([2, 2, 2, 2, 2, 2, 2, 2, 2, 2, 2, 2, 2, 2, 2, 2, 2, 2, 2, 2, 2, 2, 2, 2, 2, 2, 2, 2, 2, 2, 2, 2, 2, 2, 2, 2, 2, 2, 2, 2, 2, 2, 2, 2, 2, 2, 2, 2, 2, 2, 2, 2, 2, 2, 2, 2, 2, 3, 3, 3] : List Nat) ++ ([3, 3, 3, 3, 3, 3, 3, 3, 3, 3, 3, 3, 3, 3, 3, 3, 3, 3, 3, 3, 3, 3, 3, 3, 3, 3, 3, 3, 3, 3, 3, 3, 3, 3, 3, 3, 3, 3, 3, 3, 3, 3, 3, 3, 3, 3, 3, 3, 3, 3, 3, 3, 3, 3, 3, 3, 3, 3, 3, 3] : List Nat) ++ ([3, 3, 3, 3, 3, 3, 3, 3, 3, 3, 3, 3, 3, 3, 3, 3, 3, 3, 3, 3, 3, 3, 3, 3, 3, 3, 3, 3, 3, 3, 3, 3, 3, 3, 3, 3, 3, 3, 3, 3, 3, 3, 3, 3, 3, 3, 3, 3, 3, 3, 3, 3, 3, 3, 3, 3, 3] : List Nat)
def pf : List Nat := ([3, 3, 3, 3, 3, 3, 3, 3, 3, 3, 3, 3, 3, 3, 3, 3, 3, 3, 3, 3, 3, 3, 3, 3, 3, 3, 3, 3, 3, 3, 3, 3, 3, 3, 3, 3, 3, 3, 3, 3, 3, 3, 3, 3, 3, 3, 3, 3, 3, 3, 3, 3, 3, 3, 3, 3, 3, 3, 3, 3] : List Nat) ++ ([3, 3, 3, 3, 3, 3, 3, 3, 3, 3, 3, 3, 3, 3, 3, 3, 3, 3, 3, 3, 3, 3, 3, 3, 3, 3, 3, 3, 3] : List Nat)
def px : List Nat := [2, 2, 2, 1, 1, 1, 2, 2, 2, 2, 2, 2, 2, 1, 2, 2, 2, 2, 1, 2, 2, 2, 2, 2, 2, 2, 2, 2, 2, 2, 2, 2, 2, 2, 2, 3, 3, 2]
def pn : List Nat := [3, 3, 3, 3, 3, 3, 2, 2, 2, 3, 3, 3, 3, 3, 3, 3, 3, 3, 3, 3, 2, 2, 3, 3, 3, 2, 3, 3, 3, 3, 2, 2, 3, 2, 3, 3, 3, 3, 3, 3, 3, 3, 2, 3, 3, 3, 3, 3, 3, 3, 3, 3, 3, 3, 1, 1, 2]
abbrev hk : PySem.W.Hook := hookA as_ fa xs fn mkrs
theorem o1 (w : World) (os : OsState) : obsP 1 pa pf px pn as_ fa xs fn mkrs (HandSHeadRun.getT (S w os)) = (true, (sel 1 pn fn).map DefX.val) := by kernel_rfl
theorem o2 (w : World) (os : OsState) : obsP 2 pa pf px pn as_ fa xs fn mkrs (HandSHeadRun.getT (S w os)) = (true, (sel 2 pn fn).map DefX.val) := by kernel_rfl
theorem o3 (w : World) (os : OsState) : obsP 3 pa pf px pn as_ fa xs fn mkrs (HandSHeadRun.getT (S w os)) = (true, (sel 3 pn fn).map DefX.val) := by kernel_rfl
theorem o_tab (w : World) (os : OsState) : tabA as_ mkrs (HandSHeadRun.getT (S w os)) = true := by kernel_rfl
theorem k3 (w : World) (os : OsState) : hk.obs (S w os).abs = hk.val w := obs_parts (js := [1, 2, 3]) (by kernel_rfl) (by kernel_rfl) (o_tab w os) fun j hj => by
  simp only [List.mem_cons, List.not_mem_nil, or_false] at hj
  rcases hj with rfl | rfl | rfl
  · exact o1 w os
  · exact o2 w os
  · exact o3 w os
end
end Gk30
namespace L3
open PySem PySem.Spec PyProof.Rows L2
/-- a lambda: its object, its code object, that one's name, the maker's values -/
structure Clo where
  f : Addr
  c : Addr
  q : Str
  vs : List V
inductive PV where
  | non | bl (b : Bool) | int (i : Int) | str (x : Str) | rat (q : Rat)
  | tup (xs : List PV) | lst (xs : List PV) | frz (xs : List PV) | obj (C : Addr) (ns : List Str) (xs : List PV)
  | ptr (n : Nat) | adr (a : Addr) | ty (n : String)
  | dk (ks : List Key) (xs : List PV) | dt (ks : List (List Key)) (xs : List PV) | exc (c : Str) (ns : List Str) (xs : List PV) | clo (t : Clo) (xs : List PV)
/-- a slot: a value, or a list of the frame's own -/
inductive SV where
  | val (v : PV) | own (xs : List PV)
/-- a shared object that may change -/
inductive MO where
  | lst (xs : List PV) | ins (C : Addr) (ns : List Str) (xs : List PV) | dic (ks : List Key) (xs : List PV) | nst (c : Str) (ns : List Str) (xs : List PV)
inductive R (s a : Type) where
  | ok (v : a) (t : s) | exn (e : PV) (t : s) | bad
@[simp] def R.bind {s a b : Type} (r : R s a) (k : a → s → R s b) : R s b := match r with
  | .ok v t => k v t
  | .exn e t => .exn e t
  | .bad => .bad
structure S where
  env : List (Option SV)
  mu : List MO
abbrev DE := S → R S PV
abbrev DT := S → R S Bool
abbrev DA := S → R S (List PV)
inductive Fl where
  | nx | rt (v : PV) | bk | ct
abbrev DS := S → R S Fl
/-- what a def computes -/
abbrev DF := List PV → List MO → R (List MO) PV
def KT (K : PySem.W.Frag) (a : Addr) (xs : List V) : Prop := ∃ (o : Obj) (its : Array Value) (n : Nat), K.lookup a = some o ∧ o.cls = .type "tuple" ∧ o.data = .seq its n ∧ its.size ≤ sizeLine ∧ Vals xs its.toList
/-- a caught exception's object: its class, its dict -/
def exv (a C : Addr) (d : Option Addr) : HO := .ext fun h => ∃ oe vs, h.get? a = some oe ∧ oe.cls = .ref C ∧ oe.dict = d ∧ oe.data = .fields vs
def KL (K : PySem.W.Frag) (a : Addr) (xs : List V) : Prop := ∃ (o : Obj) (its : Array Value) (n : Nat), K.lookup a = some o ∧ o.cls = .type "list" ∧ o.dict = none ∧ o.data = .seq its n ∧ its.size ≤ sizeLine ∧ Vals xs its.toList
mutual
def Rep (K : PySem.W.Frag) (CR : Addr) (al : List Addr) (L : Addr → Prop) (H : Hp) : PV → V → Prop
  | .non, v => v = .non
  | .bl b, v => v = .bl b
  | .int i, v => v = .int i
  | .str x, v => v = .str x
  | .rat q, v => ∃ a dx, v = .ref a ∧ ¬ L a ∧ H a = some (.ins CR dx [("own_top", .int q.num), ("own_bottom", .int q.den)])
  | .tup xs, v => ∃ a vs, v = .ref a ∧ (¬ L a ∧ Rd H a (.tup vs) ∨ KT K a vs) ∧ RepL K CR al L H xs vs
  | .lst xs, v => ∃ a vs, v = .ref a ∧ ¬ L a ∧ H a = some (.lst vs) ∧ RepL K CR al L H xs vs
  | .frz xs, v => ∃ a vs, v = .ref a ∧ (¬ L a ∧ Rd H a (.lst vs) ∨ KL K a vs) ∧ RepL K CR al L H xs vs
  | .obj C ns xs, v => ∃ a dx vs, v = .ref a ∧ ¬ L a ∧ H a = some (.ins C dx (ns.zip vs)) ∧ ns.length = vs.length ∧ RepL K CR al L H xs vs
  | .ptr n, v => ∃ a, al[n]? = some a ∧ v = .ref a
  | .adr a, v => v = .ref a
  | .ty n, v => v = .ty n
  | .dk ks xs, v => ∃ a vs, v = .ref a ∧ ¬ L a ∧ Rd H a (.dK (ks.zip vs)) ∧ ks.length = vs.length ∧ RepL K CR al L H xs vs
  | .dt ks xs, v => ∃ a vs, v = .ref a ∧ ¬ L a ∧ Rd H a (.dT (ks.zip vs)) ∧ ks.length = vs.length ∧ RepL K CR al L H xs vs
  | .exc C ns xs, v => ∃ a d vs, v = .ref a ∧ ¬ L a ∧ H a = some (exv a (He.ga K C) d) ∧ ns.length = vs.length ∧ ((d = none ∧ ns = []) ∨ ∃ dd, d = some dd ∧ ¬ L dd ∧ H dd = some (.xd (ns.zip vs))) ∧ RepL K CR al L H xs vs
  | .clo t xs, v => v = .ref t.f ∧ ¬ L t.c ∧ H t.c = some (LamX.CodeO t.c t.q) ∧ RepL K CR al L H xs t.vs
def RepL (K : PySem.W.Frag) (CR : Addr) (al : List Addr) (L : Addr → Prop) (H : Hp) : List PV → List V → Prop
  | [], vs => vs = []
  | x :: xs, vs => ∃ v r, vs = v :: r ∧ Rep K CR al L H x v ∧ RepL K CR al L H xs r
end
/-- where one stands: the shared objects' addresses, what may be written, the abstract heap -/
structure Lc where
  al : List Addr
  M : Addr → Prop
  H : Hp
/-- fixed through a body: the class Ratio, what else must not be met (the callers' own lists), what is wanted of an exception -/
structure Gx where
  CR : Addr
  N : Addr → Prop
  W : WX
abbrev Gx.L (g : Gx) (l : Lc) : Addr → Prop := fun a => l.M a ∨ g.N a
/-- a def that makes lambdas: its table of code objects, all of one name -/
structure TabI (K : PySem.W.Frag) (g : Gx) (l : Lc) (x : Str) : Prop where
  M : l.M (tA K x)
  al : tA K x ∉ l.al
  is : ∃ ps : Array Value, l.H (tA K x) = some (.tbl ps) ∧ TriplesOk ps.toList ∧ ∀ (pos : Pos) (cv : Value), codeAmong pos ps.toList = some cv → ∃ c, cv = .ref c ∧ ¬ g.L l c ∧ l.H c = some (LamX.CodeO c (x ++ ".<locals>.<lambda>"))
abbrev RepG (K : PySem.W.Frag) (g : Gx) (l : Lc) : PV → V → Prop := Rep K g.CR l.al (g.L l) l.H
abbrev RepGL (K : PySem.W.Frag) (g : Gx) (l : Lc) : List PV → List V → Prop := RepL K g.CR l.al (g.L l) l.H
structure Step (l l' : Lc) : Prop where
  pre : ∃ b, l'.al = l.al ++ b
  new : ∀ a, l'.M a → l.M a ∨ l.H a = none
  keep : ∀ a o, ¬ l.M a → l.H a = some o → l'.H a = some o
  dom : ∀ a, l.H a ≠ none → l'.H a ≠ none
theorem Step.refl (l : Lc) : Step l l := ⟨⟨[], by simp⟩, fun _ h => .inl h, fun _ _ _ h => h, fun _ h => h⟩
theorem Step.trans {l l1 l2 : Lc} (a : Step l l1) (b : Step l1 l2) : Step l l2 where
  pre := by
    obtain ⟨x, hx⟩ := a.pre
    obtain ⟨y, hy⟩ := b.pre
    exact ⟨x ++ y, by rw [hy, hx, List.append_assoc]⟩
  new := fun c h => by
    rcases b.new c h with h | h
    · exact a.new c h
    · cases q : l.H c with
      | none => exact .inr rfl
      | some o => exact absurd h (a.dom c (by rw [q]; simp))
  keep := fun c o h e => by
    have e1 := a.keep c o h e
    refine b.keep c o (fun z => ?_) e1
    rcases a.new c z with z | z
    · exact h z
    · rw [z] at e; cases e
  dom := fun c h => b.dom c (a.dom c h)
theorem Rd.keep {H H' : Hp} {a : Addr} {o : HO} (k : ∀ o, H a = some o → H' a = some o) (h : Rd H a o) : Rd H' a o := by
  rcases h with h | ⟨u, h⟩
  · exact .inl (k _ h)
  · exact .inr ⟨u, k _ h⟩
theorem Rd.some {H : Hp} {a : Addr} {o : HO} (h : Rd H a o) : ∃ u, H a = some u := by
  rcases h with h | ⟨u, h⟩
  · exact ⟨_, h⟩
  · exact ⟨_, h⟩
theorem SqT.of2 {K : PySem.W.Frag} {L : Addr → Prop} {H : Hp} {a : Addr} {xs : List V} (h : ¬ L a ∧ Rd H a (.tup xs) ∨ KT K a xs) : SqT K H a xs := by
  rcases h with ⟨_, h⟩ | h
  · exact .inl h
  · exact .inr h
theorem SqL.of2 {K : PySem.W.Frag} {L : Addr → Prop} {H : Hp} {a : Addr} {xs : List V} (h : ¬ L a ∧ Rd H a (.lst xs) ∨ KL K a xs) : SqL K H a xs := by
  rcases h with ⟨_, h⟩ | h
  · exact .inl h
  · exact .inr h
mutual
theorem Rep.mono {K : PySem.W.Frag} {CR : Addr} {al al' : List Addr} {L L' : Addr → Prop} {H H' : Hp} (ha : ∀ (n : Nat) a, al[n]? = some a → al'[n]? = some a)
    (hL : ∀ a o, ¬ L a → H a = some o → H' a = some o ∧ ¬ L' a) : ∀ (x : PV) (v : V), Rep K CR al L H x v → Rep K CR al' L' H' x v
  | .non, v, h => h
  | .bl b, v, h => h
  | .int i, v, h => h
  | .str x, v, h => h
  | .rat q, v, h => by
    obtain ⟨a, dx, e, n, h⟩ := h
    exact ⟨a, dx, e, (hL a _ n h).2, (hL a _ n h).1⟩
  | .tup xs, v, h => by
    obtain ⟨a, vs, e, h, r⟩ := h
    refine ⟨a, vs, e, ?_, RepL.mono ha hL xs vs r⟩
    rcases h with ⟨n, h⟩ | h
    · obtain ⟨u, hu⟩ := Rd.some h
      exact .inl ⟨(hL a u n hu).2, Rd.keep (fun o q => (hL a o n q).1) h⟩
    · exact .inr h
  | .lst xs, v, h => by
    obtain ⟨a, vs, e, n, h, r⟩ := h
    exact ⟨a, vs, e, (hL a _ n h).2, (hL a _ n h).1, RepL.mono ha hL xs vs r⟩
  | .frz xs, v, h => by
    obtain ⟨a, vs, e, h, r⟩ := h
    refine ⟨a, vs, e, ?_, RepL.mono ha hL xs vs r⟩
    rcases h with ⟨n, h⟩ | h
    · obtain ⟨u, hu⟩ := Rd.some h
      exact .inl ⟨(hL a u n hu).2, Rd.keep (fun o q => (hL a o n q).1) h⟩
    · exact .inr h
  | .obj C ns xs, v, h => by
    obtain ⟨a, dx, vs, e, n, h, z, r⟩ := h
    exact ⟨a, dx, vs, e, (hL a _ n h).2, (hL a _ n h).1, z, RepL.mono ha hL xs vs r⟩
  | .ptr n, v, h => by
    obtain ⟨a, h, e⟩ := h
    exact ⟨a, ha n a h, e⟩
  | .adr a, v, h => h
  | .ty n, v, h => h
  | .dk ks xs, v, h => by
    obtain ⟨a, vs, e, n, h, z, r⟩ := h
    obtain ⟨u, hu⟩ := Rd.some h
    exact ⟨a, vs, e, (hL a u n hu).2, Rd.keep (fun o q => (hL a o n q).1) h, z, RepL.mono ha hL xs vs r⟩
  | .dt ks xs, v, h => by
    obtain ⟨a, vs, e, n, h, z, r⟩ := h
    obtain ⟨u, hu⟩ := Rd.some h
    exact ⟨a, vs, e, (hL a u n hu).2, Rd.keep (fun o q => (hL a o n q).1) h, z, RepL.mono ha hL xs vs r⟩
  | .exc C ns xs, v, h => by
    obtain ⟨a, d, vs, e, n, h, z, q, r⟩ := h
    refine ⟨a, d, vs, e, (hL a _ n h).2, (hL a _ n h).1, z, ?_, RepL.mono ha hL xs vs r⟩
    rcases q with q | ⟨dd, q1, q2, q3⟩
    · exact .inl q
    · exact .inr ⟨dd, q1, (hL dd _ q2 q3).2, (hL dd _ q2 q3).1⟩
  | .clo t xs, v, h => by
    obtain ⟨e, n, h, r⟩ := h
    exact ⟨e, (hL t.c _ n h).2, (hL t.c _ n h).1, RepL.mono ha hL xs t.vs r⟩
theorem RepL.mono {K : PySem.W.Frag} {CR : Addr} {al al' : List Addr} {L L' : Addr → Prop} {H H' : Hp} (ha : ∀ (n : Nat) a, al[n]? = some a → al'[n]? = some a)
    (hL : ∀ a o, ¬ L a → H a = some o → H' a = some o ∧ ¬ L' a) : ∀ (x : List PV) (v : List V), RepL K CR al L H x v → RepL K CR al' L' H' x v
  | [], v, h => h
  | x :: xs, v, h => by
    obtain ⟨u, r, e, h1, h2⟩ := h
    exact ⟨u, r, e, Rep.mono ha hL x u h1, RepL.mono ha hL xs r h2⟩
end
theorem Step.al {l l' : Lc} (st : Step l l') (n : Nat) (a : Addr) (h : l.al[n]? = some a) : l'.al[n]? = some a := by
  obtain ⟨b, e⟩ := st.pre
  rw [e, List.getElem?_append_left (List.getElem?_eq_some_iff.mp h).1]
  exact h
theorem Step.repL' {l l' : Lc} {g : Gx} (st : Step l l') (a : Addr) (o : HO) (n : ¬ g.L l a) (h : l.H a = some o) : l'.H a = some o ∧ ¬ g.L l' a := by
  refine ⟨st.keep a o (fun z => n (.inl z)) h, fun z => ?_⟩
  rcases z with z | z
  · rcases st.new a z with q | q
    · exact n (.inl q)
    · rw [h] at q; cases q
  · exact n (.inr z)
theorem TabI.to {K : PySem.W.Frag} {g g' : Gx} {l l' : Lc} {x : Str} (h : TabI K g l x) (hM : l'.M (tA K x)) (hal : tA K x ∉ l'.al) (hP : ∀ ps, l.H (tA K x) = some (.tbl ps) → l'.H (tA K x) = some (.tbl ps))
    (hL : ∀ c q, ¬ g.L l c → l.H c = some (LamX.CodeO c q) → l'.H c = some (LamX.CodeO c q) ∧ ¬ g'.L l' c) : TabI K g' l' x := by
  obtain ⟨ps, h1, h2, h3⟩ := h.is
  refine ⟨hM, hal, ps, hP _ h1, h2, fun pos cv e => ?_⟩
  obtain ⟨c, e1, e2, e3⟩ := h3 pos cv e
  exact ⟨c, e1, (hL c _ e2 e3).2, (hL c _ e2 e3).1⟩
theorem TabI.there {K : PySem.W.Frag} {g : Gx} {l : Lc} {x : Str} (h : TabI K g l x) : l.H (tA K x) ≠ none := by
  obtain ⟨ps, h1, _⟩ := h.is
  rw [h1]
  exact fun z => nomatch z
theorem TabI.ne {K : PySem.W.Frag} {g : Gx} {l : Lc} {x : Str} {a : Addr} {o : HO} (h : TabI K g l x) (e : l.H a = some o) (n : ∀ ps, o ≠ .tbl ps) : tA K x ≠ a := fun z => by
  obtain ⟨ps, h1, _⟩ := h.is
  rw [z, e] at h1
  exact n ps (Option.some.inj h1)
theorem TabI.ne0 {K : PySem.W.Frag} {g : Gx} {l : Lc} {x : Str} {a : Addr} (h : TabI K g l x) (e : l.H a = none) : tA K x ≠ a := fun z => h.there (by rw [z]; exact e)
theorem TabI.same {K : PySem.W.Frag} {g g' : Gx} {l : Lc} {x : Str} (h : TabI K g l x) (e : g'.N = g.N) : TabI K g' l x := h.to h.M h.al (fun _ q => q) fun c q n e2 => ⟨e2, by
  show ¬ (l.M c ∨ g'.N c)
  rw [e]
  exact n⟩
theorem Step.rep {K : PySem.W.Frag} {g : Gx} {l l' : Lc} (st : Step l l') {x : PV} {v : V} (h : RepG K g l x v) : RepG K g l' x v := Rep.mono st.al (fun a o => st.repL' a o) x v h
theorem Step.reps {K : PySem.W.Frag} {g : Gx} {l l' : Lc} (st : Step l l') {x : List PV} {v : List V} (h : RepGL K g l x v) : RepGL K g l' x v := RepL.mono st.al (fun a o => st.repL' a o) x v h
theorem RepL.length {K : PySem.W.Frag} {CR : Addr} {al : List Addr} {L : Addr → Prop} {H : Hp} : ∀ {xs : List PV} {vs : List V}, RepL K CR al L H xs vs → xs.length = vs.length
  | [], vs, h => by have e : vs = [] := h; rw [e]; rfl
  | x :: xs, vs, h => by
    obtain ⟨v, r, e, _, h2⟩ := h
    rw [e, List.length_cons, List.length_cons, RepL.length h2]
theorem RepL.get {K : PySem.W.Frag} {CR : Addr} {al : List Addr} {L : Addr → Prop} {H : Hp} : ∀ {xs : List PV} {vs : List V} {i : Nat} {x : PV}, RepL K CR al L H xs vs → xs[i]? = some x → ∃ v, vs[i]? = some v ∧ Rep K CR al L H x v
  | [], _, _, _, _, e => by simp at e
  | y :: xs, vs, 0, x, h, e => by
    obtain ⟨v, r, ev, h1, _⟩ := h
    simp only [List.getElem?_cons_zero, Option.some.injEq] at e
    subst e
    exact ⟨v, by rw [ev]; rfl, h1⟩
  | y :: xs, vs, i + 1, x, h, e => by
    obtain ⟨v, r, ev, _, h2⟩ := h
    obtain ⟨u, h3, h4⟩ := RepL.get (i := i) (x := x) h2 (by simpa using e)
    exact ⟨u, by rw [ev]; simpa using h3, h4⟩
theorem RepL.append {K : PySem.W.Frag} {CR : Addr} {al : List Addr} {L : Addr → Prop} {H : Hp} : ∀ {xs ys : List PV} {vs ws : List V}, RepL K CR al L H xs vs → RepL K CR al L H ys ws → RepL K CR al L H (xs ++ ys) (vs ++ ws)
  | [], ys, vs, ws, h, q => by have e : vs = [] := h; rw [e]; exact q
  | x :: xs, ys, vs, ws, h, q => by
    obtain ⟨v, r, ev, h1, h2⟩ := h
    exact ⟨v, r ++ ws, by rw [ev]; rfl, h1, RepL.append h2 q⟩
theorem RepL.iff {K : PySem.W.Frag} {CR : Addr} {al : List Addr} {L : Addr → Prop} {H : Hp} : ∀ {xs : List PV} {vs : List V}, RepL K CR al L H xs vs ↔ xs.length = vs.length ∧ ∀ (i : Nat) x, xs[i]? = some x → ∃ v, vs[i]? = some v ∧ Rep K CR al L H x v
  | [], [] => ⟨fun _ => ⟨rfl, fun i x h => by simp at h⟩, fun _ => rfl⟩
  | [], v :: vs => ⟨fun h => (by cases h), fun h => nomatch h.1⟩
  | x :: xs, [] => ⟨fun h => (by obtain ⟨v, r, e, _⟩ := h; exact nomatch e), fun h => nomatch h.1⟩
  | x :: xs, v :: vs => by
    refine ⟨fun h => ⟨h.length, fun i y => h.get⟩, fun ⟨h1, h2⟩ => ?_⟩
    obtain ⟨u, e, r⟩ := h2 0 x rfl
    simp only [List.getElem?_cons_zero, Option.some.injEq] at e
    subst e
    exact ⟨v, vs, rfl, r, RepL.iff.mpr ⟨by simpa using h1, fun i y hy => by simpa using h2 (i + 1) y (by simpa using hy)⟩⟩
end L3
namespace L3
open PySem PySem.Spec PyProof.Rows L2
abbrev St := L2.St
def MoRep (K : PySem.W.Frag) (g : Gx) (l : Lc) (a : Addr) : MO → Prop
  | .lst xs => ∃ vs, l.H a = some (.lst vs) ∧ RepGL K g l xs vs
  | .ins C ns xs => ∃ dx vs, l.H a = some (.ins C dx (ns.zip vs)) ∧ ns.length = vs.length ∧ RepGL K g l xs vs
  | .nst c ns xs => ∃ dx vs, l.H a = some (.ins (He.ga K c) dx (ns.zip vs)) ∧ ns.length = vs.length ∧ RepGL K g l xs vs
  | .dic ks xs => ∃ vs, l.H a = some (.dK (ks.zip vs)) ∧ ks.length = vs.length ∧ (ks.Nodup) ∧ RepGL K g l xs vs
structure Sok (K : PySem.W.Frag) (g : Gx) (l : Lc) (s : S) (σ : St) : Prop where
  len : s.env.length = σ.length
  env : ∀ (i : Nat) v, s.env[i]? = some (some (.val v)) → ∃ u, σ[i]? = some (some u) ∧ RepG K g l v u
  own : ∀ (i : Nat) xs, s.env[i]? = some (some (.own xs)) → ∃ a vs, σ[i]? = some (some (.ref a)) ∧ l.M a ∧ a ∉ l.al ∧ l.H a = some (.lst vs) ∧ RepGL K g l xs vs
  dis : ∀ (i j : Nat) xs ys a, i ≠ j → s.env[i]? = some (some (.own xs)) → s.env[j]? = some (some (.own ys)) → σ[i]? = some (some (.ref a)) → σ[j]? = some (some (.ref a)) → False
  mlen : l.al.length = s.mu.length
  mu : ∀ (n : Nat) a m, l.al[n]? = some a → s.mu[n]? = some m → MoRep K g l a m
  nd : l.al.Nodup
  alM : ∀ a, a ∈ l.al → l.M a
  there : ∀ a, l.M a ∨ g.N a → l.H a ≠ none
  mn : ∀ a, l.M a → ¬ g.N a
  tabs : ∀ x ∈ TK K, TabI K g l x
/-- an exception's abstract value -/
def RepX (K : PySem.W.Frag) (g : Gx) (l : Lc) (e : PV) (cls : Value) (dd : Option Addr) : Prop :=
  ∃ c ns xs vs, e = .exc c ns xs ∧ cls = .ref (He.ga K c) ∧ ns.length = vs.length ∧ RepGL K g l xs vs ∧ ((dd = none ∧ ns = []) ∨ ∃ d, dd = some d ∧ ¬ g.L l d ∧ l.H d = some (.xd (ns.zip vs)))
/-- from here on, for an expression -/
def Run (K : PySem.W.Frag) (g : Gx) (r : R S PV) (l : Lc) (σ : St) (Q : VK) : Prop := match r with
  | .ok v s' => ∀ l' u, Step l l' → Sok K g l' s' σ → RepG K g l' v u → Q u l'.H
  | .exn e s' => ∀ l' cls dd, Step l l' → Sok K g l' s' σ → RepX K g l' e cls dd → g.W cls dd σ l'.H
  | .bad => False
def RunT (K : PySem.W.Frag) (g : Gx) (r : R S Bool) (l : Lc) (σ : St) (Q : Bool → Hp → Prop) : Prop := match r with
  | .ok b s' => ∀ l', Step l l' → Sok K g l' s' σ → Q b l'.H
  | .exn e s' => ∀ l' cls dd, Step l l' → Sok K g l' s' σ → RepX K g l' e cls dd → g.W cls dd σ l'.H
  | .bad => False
def RunA (K : PySem.W.Frag) (g : Gx) (r : R S (List PV)) (l : Lc) (σ : St) (Q : List V → Hp → Prop) : Prop := match r with
  | .ok vs s' => ∀ l' us, Step l l' → Sok K g l' s' σ → RepGL K g l' vs us → Q us l'.H
  | .exn e s' => ∀ l' cls dd, Step l l' → Sok K g l' s' σ → RepX K g l' e cls dd → g.W cls dd σ l'.H
  | .bad => False
def RunS (K : PySem.W.Frag) (g : Gx) (r : R S Fl) (l : Lc) (D : Ends) (σ : St) : Prop := match r with
  | .ok .nx s' => ∀ l' σ', Step l l' → Sok K g l' s' σ' → D.nx σ' l'.H
  | .ok .bk s' => ∀ l' σ', Step l l' → Sok K g l' s' σ' → D.bk σ' l'.H
  | .ok .ct s' => ∀ l' σ', Step l l' → Sok K g l' s' σ' → D.ct σ' l'.H
  | .ok (.rt v) s' => ∀ l' σ' u, Step l l' → Sok K g l' s' σ' → RepG K g l' v u → D.rt u l'.H
  | .exn e s' => ∀ l' σ' cls dd, Step l l' → Sok K g l' s' σ' → RepX K g l' e cls dd → g.W cls dd σ' l'.H
  | .bad => False
def LE (K : PySem.W.Frag) (g : Gx) (d : DE) : TE := fun σ H Q => ∃ l s, l.H = H ∧ Sok K g l s σ ∧ Run K g (d s) l σ Q
def LT (K : PySem.W.Frag) (g : Gx) (d : DT) : TT := fun σ H Q => ∃ l s, l.H = H ∧ Sok K g l s σ ∧ RunT K g (d s) l σ Q
def LA (K : PySem.W.Frag) (g : Gx) (d : DA) : TA := fun σ H Q => ∃ l s, l.H = H ∧ Sok K g l s σ ∧ RunA K g (d s) l σ Q
def LS (K : PySem.W.Frag) (g : Gx) (d : DS) : TS := fun D σ H => ∃ l s, l.H = H ∧ Sok K g l s σ ∧ RunS K g (d s) l D σ
/-- the judgements: code and what it computes -/
abbrev JE (X : Cx) (g : Gx) (e : Expr) (d : DE) : Prop := PE X e (LE X.K g d)
abbrev JT (X : Cx) (g : Gx) (e : Expr) (d : DT) : Prop := PT X e (LT X.K g d)
abbrev JW (X : Cx) (g : Gx) (e : Expr) (d : DT) : Prop := PW X e (LT X.K g d)
abbrev JA (X : Cx) (g : Gx) (es : List Expr) (d : DA) : Prop := PA X es (LA X.K g d)
abbrev JS (X : Cx) (g : Gx) (st : Stmt) (d : DS) : Prop := PS X st (LS X.K g d)
abbrev JSs (X : Cx) (g : Gx) (st : List Stmt) (d : DS) : Prop := PSs X st (LS X.K g d)
section
variable {K : PySem.W.Frag} {g : Gx} {l l1 : Lc} {σ : St} {Q : VK}
theorem Run.step {r : R S PV} (h : Run K g r l σ Q) (st : Step l l1) : Run K g r l1 σ Q := by
  cases r with
  | ok v s' => exact fun l' u a => h l' u (st.trans a)
  | exn e s' => exact fun l' c d a => h l' c d (st.trans a)
  | bad => exact h
theorem RunT.step {r : R S Bool} {Q : Bool → Hp → Prop} (h : RunT K g r l σ Q) (st : Step l l1) : RunT K g r l1 σ Q := by
  cases r with
  | ok v s' => exact fun l' a => h l' (st.trans a)
  | exn e s' => exact fun l' c d a => h l' c d (st.trans a)
  | bad => exact h
theorem RunA.step {r : R S (List PV)} {Q : List V → Hp → Prop} (h : RunA K g r l σ Q) (st : Step l l1) : RunA K g r l1 σ Q := by
  cases r with
  | ok v s' => exact fun l' u a => h l' u (st.trans a)
  | exn e s' => exact fun l' c d a => h l' c d (st.trans a)
  | bad => exact h
theorem RunS.step {r : R S Fl} {D : Ends} (h : RunS K g r l D σ) (st : Step l l1) : RunS K g r l1 D σ := by
  cases r with
  | ok f s' =>
    cases f with
    | nx => exact fun l' u a => h l' u (st.trans a)
    | bk => exact fun l' u a => h l' u (st.trans a)
    | ct => exact fun l' u a => h l' u (st.trans a)
    | rt v => exact fun l' u x a => h l' u x (st.trans a)
  | exn e s' => exact fun l' u c d a => h l' u c d (st.trans a)
  | bad => exact h
theorem Run.mono {r : R S PV} {Q' : VK} (h : Run K g r l σ Q) (i : ∀ u H, Q u H → Q' u H) : Run K g r l σ Q' := by
  cases r with
  | ok v s' => exact fun l' u a b c => i _ _ (h l' u a b c)
  | exn e s' => exact h
  | bad => exact h
theorem RunT.mono {r : R S Bool} {Q Q' : Bool → Hp → Prop} (h : RunT K g r l σ Q) (i : ∀ u H, Q u H → Q' u H) : RunT K g r l σ Q' := by
  cases r with
  | ok v s' => exact fun l' a b => i _ _ (h l' a b)
  | exn e s' => exact h
  | bad => exact h
theorem RunA.mono {r : R S (List PV)} {Q Q' : List V → Hp → Prop} (h : RunA K g r l σ Q) (i : ∀ u H, Q u H → Q' u H) : RunA K g r l σ Q' := by
  cases r with
  | ok v s' => exact fun l' u a b c => i _ _ (h l' u a b c)
  | exn e s' => exact h
  | bad => exact h
/-- an expression, then what follows -/
theorem Run.bind {r : R S PV} {k : PV → S → R S PV} (h : Run K g (r.bind k) l σ Q) : Run K g r l σ (fun u H1 => ∃ l1 s1 v, l1.H = H1 ∧ Sok K g l1 s1 σ ∧ RepG K g l1 v u ∧ Step l l1 ∧ Run K g (k v s1) l1 σ Q) := by
  cases r with
  | ok v s' => exact fun l' u a ok rp => ⟨l', s', v, rfl, ok, rp, a, Run.step (r := k v s') h a⟩
  | exn e s' => exact h
  | bad => exact h
theorem Run.bindT {r : R S PV} {k : PV → S → R S Bool} {Q : Bool → Hp → Prop} (h : RunT K g (r.bind k) l σ Q) : Run K g r l σ (fun u H1 => ∃ l1 s1 v, l1.H = H1 ∧ Sok K g l1 s1 σ ∧ RepG K g l1 v u ∧ Step l l1 ∧ RunT K g (k v s1) l1 σ Q) := by
  cases r with
  | ok v s' => exact fun l' u a ok rp => ⟨l', s', v, rfl, ok, rp, a, RunT.step (r := k v s') h a⟩
  | exn e s' => exact h
  | bad => exact h
theorem Run.bindA {r : R S PV} {k : PV → S → R S (List PV)} {Q : List V → Hp → Prop} (h : RunA K g (r.bind k) l σ Q) : Run K g r l σ (fun u H1 => ∃ l1 s1 v, l1.H = H1 ∧ Sok K g l1 s1 σ ∧ RepG K g l1 v u ∧ Step l l1 ∧ RunA K g (k v s1) l1 σ Q) := by
  cases r with
  | ok v s' => exact fun l' u a ok rp => ⟨l', s', v, rfl, ok, rp, a, RunA.step (r := k v s') h a⟩
  | exn e s' => exact h
  | bad => exact h
theorem Run.bindS {r : R S PV} {k : PV → S → R S Fl} {D : Ends} (h : RunS K g (r.bind k) l D σ) : Run K g r l σ (fun u H1 => ∃ l1 s1 v, l1.H = H1 ∧ Sok K g l1 s1 σ ∧ RepG K g l1 v u ∧ Step l l1 ∧ RunS K g (k v s1) l1 D σ) := by
  cases r with
  | ok v s' => exact fun l' u a ok rp => ⟨l', s', v, rfl, ok, rp, a, RunS.step (r := k v s') h a⟩
  | exn e s' => exact fun l' c d => h l' σ c d
  | bad => exact h
theorem RunT.bind {r : R S Bool} {k : Bool → S → R S PV} (h : Run K g (r.bind k) l σ Q) : RunT K g r l σ (fun b H1 => ∃ l1 s1, l1.H = H1 ∧ Sok K g l1 s1 σ ∧ Step l l1 ∧ Run K g (k b s1) l1 σ Q) := by
  cases r with
  | ok v s' => exact fun l' a ok => ⟨l', s', rfl, ok, a, Run.step (r := k v s') h a⟩
  | exn e s' => exact h
  | bad => exact h
theorem RunT.bindT {r : R S Bool} {k : Bool → S → R S Bool} {Q : Bool → Hp → Prop} (h : RunT K g (r.bind k) l σ Q) : RunT K g r l σ (fun b H1 => ∃ l1 s1, l1.H = H1 ∧ Sok K g l1 s1 σ ∧ Step l l1 ∧ RunT K g (k b s1) l1 σ Q) := by
  cases r with
  | ok v s' => exact fun l' a ok => ⟨l', s', rfl, ok, a, RunT.step (r := k v s') h a⟩
  | exn e s' => exact h
  | bad => exact h
theorem RunT.bindS {r : R S Bool} {k : Bool → S → R S Fl} {D : Ends} (h : RunS K g (r.bind k) l D σ) : RunT K g r l σ (fun b H1 => ∃ l1 s1, l1.H = H1 ∧ Sok K g l1 s1 σ ∧ Step l l1 ∧ RunS K g (k b s1) l1 D σ) := by
  cases r with
  | ok v s' => exact fun l' a ok => ⟨l', s', rfl, ok, a, RunS.step (r := k v s') h a⟩
  | exn e s' => exact fun l' c d => h l' σ c d
  | bad => exact h
theorem RunA.bind {r : R S (List PV)} {k : List PV → S → R S PV} (h : Run K g (r.bind k) l σ Q) : RunA K g r l σ (fun us H1 => ∃ l1 s1 vs, l1.H = H1 ∧ Sok K g l1 s1 σ ∧ RepGL K g l1 vs us ∧ Step l l1 ∧ Run K g (k vs s1) l1 σ Q) := by
  cases r with
  | ok v s' => exact fun l' u a ok rp => ⟨l', s', v, rfl, ok, rp, a, Run.step (r := k v s') h a⟩
  | exn e s' => exact h
  | bad => exact h
theorem RunA.bindA {r : R S (List PV)} {k : List PV → S → R S (List PV)} {Q : List V → Hp → Prop} (h : RunA K g (r.bind k) l σ Q) : RunA K g r l σ (fun us H1 => ∃ l1 s1 vs, l1.H = H1 ∧ Sok K g l1 s1 σ ∧ RepGL K g l1 vs us ∧ Step l l1 ∧ RunA K g (k vs s1) l1 σ Q) := by
  cases r with
  | ok v s' => exact fun l' u a ok rp => ⟨l', s', v, rfl, ok, rp, a, RunA.step (r := k v s') h a⟩
  | exn e s' => exact h
  | bad => exact h
end
section
variable {X : Cx}
/-- what suffices -/
theorem PE.cq {e : Expr} {t t' : TE} (h : PE X e t) (i : ∀ pins s σ H Q, Inv X pins σ H s → t' σ H Q → t σ H Q) : PE X e t' := ⟨fun pins s σ H Q I q => h.run pins s σ H Q I (i pins s σ H Q I q)⟩
theorem PT.cq {e : Expr} {t t' : TT} (h : PT X e t) (i : ∀ σ H Q, t' σ H Q → t σ H Q) : PT X e t' := ⟨fun pins s σ H Q I q => h.run pins s σ H Q I (i σ H Q q)⟩
theorem PW.cq {e : Expr} {t t' : TT} (h : PW X e t) (i : ∀ σ H Q, t' σ H Q → t σ H Q) : PW X e t' := ⟨fun wh pins s σ H Q I q => h.run wh pins s σ H Q I (i σ H Q q)⟩
theorem PA.cq {es : List Expr} {t t' : TA} (h : PA X es t) (i : ∀ σ H Q, t' σ H Q → t σ H Q) : PA X es t' := ⟨fun pos pins s σ H Q I q => h.run pos pins s σ H Q I (i σ H Q q)⟩
theorem PS.cq {st : Stmt} {t t' : TS} (h : PS X st t) (i : ∀ pins s D σ H, Inv X pins σ H s → t' D σ H → t D σ H) : PS X st t' := ⟨fun pins s σ H D I q => h.run pins s σ H D I (i pins s D σ H I q)⟩
theorem PSs.cq {st : List Stmt} {t t' : TS} (h : PSs X st t) (i : ∀ D σ H, t' D σ H → t D σ H) : PSs X st t' := ⟨fun pins s σ H D I q => h.run pins s σ H D I (i D σ H q)⟩
end
section
variable {K : PySem.W.Frag} {g : Gx} {l : Lc} {s : S} {σ : St} {p : Addr} {o : HO}
theorem Step.alloc (hp : l.H p = none) : Step l ⟨l.al, l.M, upd l.H p o⟩ where
  pre := ⟨[], by simp⟩
  new := fun _ h => .inl h
  keep := fun a u _ h => by show upd l.H p o a = some u; rw [upd_ne (ne_of_none h hp)]; exact h
  dom := fun a h => by
    show upd l.H p o a ≠ none
    by_cases e : a = p
    · rw [e, upd_same]; simp
    · rw [upd_ne e]; exact h
/-- all that was known stays where objects are only made -/
theorem Sok.grow {l' : Lc} (ok : Sok K g l s σ) (ea : l'.al = l.al) (eM : l'.M = l.M) (k : ∀ a o, l.H a = some o → l'.H a = some o) : Sok K g l' s σ := by
  have st : Step l l' := ⟨⟨[], by simp [ea]⟩, fun a h => .inl (by rw [← eM]; exact h), fun a o _ h => k a o h, fun a h => by
    cases q : l.H a with
    | none => exact absurd q h
    | some o => rw [k a o q]; simp⟩
  refine ⟨ok.len, fun i v e => ?_, fun i xs e => ?_, ok.dis, by rw [ea]; exact ok.mlen, fun n a m h1 h2 => ?_, by rw [ea]; exact ok.nd, by rw [ea, eM]; exact ok.alM, fun a h => st.dom a (ok.there a (by rw [← eM]; exact h)), by rw [eM]; exact ok.mn, fun x hx => (ok.tabs x hx).to (by rw [eM]; exact (ok.tabs x hx).M) (by rw [ea]; exact (ok.tabs x hx).al) (fun _ q => k _ _ q) fun c q n e => st.repL' c _ n e⟩
  · obtain ⟨u, h1, h2⟩ := ok.env i v e
    exact ⟨u, h1, st.rep h2⟩
  · obtain ⟨a, vs, h1, h2, h3, h4, h5⟩ := ok.own i xs e
    exact ⟨a, vs, h1, by rw [eM]; exact h2, by rw [ea]; exact h3, k _ _ h4, st.reps h5⟩
  · rw [ea] at h1
    have q := ok.mu n a m h1 h2
    cases m with
    | lst xs =>
      obtain ⟨vs, q1, q2⟩ := q
      exact ⟨vs, k _ _ q1, st.reps q2⟩
    | ins C ns xs =>
      obtain ⟨dx, vs, q1, q2, q3⟩ := q
      exact ⟨dx, vs, k _ _ q1, q2, st.reps q3⟩
    | nst C ns xs =>
      obtain ⟨dx, vs, q1, q2, q3⟩ := q
      exact ⟨dx, vs, k _ _ q1, q2, st.reps q3⟩
    | dic ns xs =>
      obtain ⟨vs, q1, q2, q9, q3⟩ := q
      exact ⟨vs, k _ _ q1, q2, q9, st.reps q3⟩
theorem Sok.alloc (ok : Sok K g l s σ) (hp : l.H p = none) : Sok K g ⟨l.al, l.M, upd l.H p o⟩ s σ :=
  ok.grow rfl rfl fun a u h => by show upd l.H p o a = some u; rw [upd_ne (ne_of_none h hp)]; exact h
theorem Sok.fresh (ok : Sok K g l s σ) (hp : l.H p = none) : ¬ g.L l p := fun h => ok.there p h hp
end
end L3
namespace L3
open PySem PySem.Spec PyProof.Rows L2
@[simp] def dC (v : PV) : DE := fun s => .ok v s
@[simp] def dVar (i : Nat) : DE := fun s => match s.env[i]? with
  | some (some (.val v)) => .ok v s
  | _ => .bad
@[simp] def dBin (f : PV → PV → S → R S PV) (da db : DE) : DE := fun s => (da s).bind fun x s1 => (db s1).bind fun y s2 => f x y s2
@[simp] def dUn (f : PV → S → R S PV) (da : DE) : DE := fun s => (da s).bind f
@[simp] def dNil : DA := fun s => .ok [] s
@[simp] def dCons (da : DE) (dr : DA) : DA := fun s => (da s).bind fun x s1 => (dr s1).bind fun xs s2 => .ok (x :: xs) s2
@[simp] def dFn (f : List PV → S → R S PV) (da : DA) : DE := fun s => (da s).bind f
/-- an operation on values at a state -/
def OJ (X : Cx) (g : Gx) (fn : Value → Value → Sem Value) (f : PV → PV → S → R S PV) : Prop :=
  ∀ (pins : List (Addr × Obj)) (s : Shared) (σ : St) (x y : V) (v u : Value) (Q : VK) (l : Lc) (st : S) (p q : PV), Inv X pins σ l.H s → RelV x v → RelV y u → Sok X.K g l st σ → RepG X.K g l p x → RepG X.K g l q y →
    Run X.K g (f p q st) l σ Q → wpAny (model X.prog X.w) X.A (fn v u) (EP X pins σ Q) X.xe s
def UJ (X : Cx) (g : Gx) (fn : Value → Sem Value) (f : PV → S → R S PV) : Prop :=
  ∀ (pins : List (Addr × Obj)) (s : Shared) (σ : St) (x : V) (v : Value) (Q : VK) (l : Lc) (st : S) (p : PV), Inv X pins σ l.H s → RelV x v → Sok X.K g l st σ → RepG X.K g l p x →
    Run X.K g (f p st) l σ Q → wpAny (model X.prog X.w) X.A (fn v) (EP X pins σ Q) X.xe s
def CJ (X : Cx) (g : Gx) (fn : List Value → Sem Value) (f : List PV → S → R S PV) : Prop :=
  ∀ (pins : List (Addr × Obj)) (s : Shared) (σ : St) (xs : List V) (vs : List Value) (Q : VK) (l : Lc) (st : S) (ps : List PV), Inv X pins σ l.H s → Vals xs vs → Sok X.K g l st σ → RepGL X.K g l ps xs →
    Run X.K g (f ps st) l σ Q → wpAny (model X.prog X.w) X.A (fn vs) (EP X pins σ Q) X.xe s
section
variable {X : Cx} {g : Gx} {a b c e : Expr} {es : List Expr} {da db dc de : DE} {dr : DA} {pos : Pos}
theorem OJ.of {fn : Value → Value → Sem Value} {f : PV → PV → S → R S PV} {r : R2} (h : OpR X fn r) (i : ∀ l st σ p q x y Q, Sok X.K g l st σ → RepG X.K g l p x → RepG X.K g l q y → Run X.K g (f p q st) l σ Q → r x y l.H Q) : OJ X g fn f :=
  fun pins s σ x y v u Q l st p q I rx ry ok rp rq q' => h pins s σ l.H x y v u Q I rx ry (i l st σ p q x y Q ok rp rq q')
theorem UJ.of {fn : Value → Sem Value} {f : PV → S → R S PV} {r : V → Hp → VK → Prop} (h : UnR X fn r) (i : ∀ l st σ p x Q, Sok X.K g l st σ → RepG X.K g l p x → Run X.K g (f p st) l σ Q → r x l.H Q) : UJ X g fn f :=
  fun pins s σ x v Q l st p I rx ok rp q' => h pins s σ l.H x v Q I rx (i l st σ p x Q ok rp q')
theorem CJ.of {v : Value} {f : List PV → S → R S PV} {r : List V → Hp → VK → Prop} (h : CallR X v r) (i : ∀ l st σ ps xs Q, Sok X.K g l st σ → RepGL X.K g l ps xs → Run X.K g (f ps st) l σ Q → r xs l.H Q) : CJ X g (fun us => call v us) f :=
  fun pins s σ xs us Q l st ps I rx ok rp q' => h pins s σ l.H xs us Q I rx (i l st σ ps xs Q ok rp q')
theorem LE.here {K : PySem.W.Frag} {l : Lc} {s : S} {σ : St} {Q : VK} {d : DE} (ok : Sok K g l s σ) (h : Run K g (d s) l σ Q) : LE K g d σ l.H Q := ⟨l, s, rfl, ok, h⟩
theorem LT.here {K : PySem.W.Frag} {l : Lc} {s : S} {σ : St} {Q : Bool → Hp → Prop} {d : DT} (ok : Sok K g l s σ) (h : RunT K g (d s) l σ Q) : LT K g d σ l.H Q := ⟨l, s, rfl, ok, h⟩
theorem LA.here {K : PySem.W.Frag} {l : Lc} {s : S} {σ : St} {Q : List V → Hp → Prop} {d : DA} (ok : Sok K g l s σ) (h : RunA K g (d s) l σ Q) : LA K g d σ l.H Q := ⟨l, s, rfl, ok, h⟩
theorem LS.here {K : PySem.W.Frag} {l : Lc} {s : S} {σ : St} {D : Ends} {d : DS} (ok : Sok K g l s σ) (h : RunS K g (d s) l D σ) : LS K g d D σ l.H := ⟨l, s, rfl, ok, h⟩
theorem jc {v : V} {p : PV} (h : PE X e (tC v)) (r : ∀ l, RepG X.K g l p v) : JE X g e (dC p) := PE.cq h fun pins s σ H Q I q => by
  obtain ⟨l, s, rfl, ok, q⟩ := q
  exact q l v (Step.refl l) ok (r l)
theorem j_int {i j pos} : JE X g (.Constant (.int i) j pos) (dC (.int i)) := jc pe_int fun _ => rfl
theorem j_bl {b j pos} : JE X g (.Constant (.bool b) j pos) (dC (.bl b)) := jc pe_bl fun _ => rfl
theorem j_non {j pos} : JE X g (.Constant .none j pos) (dC .non) := jc pe_non fun _ => rfl
theorem j_str {x j pos} : JE X g (.Constant (.str x) j pos) (dC (.str x)) := jc pe_str fun _ => rfl
theorem jv (i : Nat) {x : Str} (hN : X.N[i]? = some x := by rfl) (hv : Vis X.env.scope x := by first | exact Or.inl rfl | exact Or.inr (Or.inl rfl) | exact Or.inr (Or.inr rfl)) (hd : (x == ("__debug__" : Str)) = false := by decide)
    (hcd : (x == ("__classdict__" : Str)) = false := by decide) : JE X g (.Name x pos) (dVar i) := PE.cq (pe_var hN hv hd hcd) fun pins s σ H Q I q => by
  obtain ⟨l, s, rfl, ok, q⟩ := q
  cases e : s.env[i]? with
  | none => simp only [dVar, e] at q; exact q.elim
  | some o =>
    cases o with
    | none => simp only [dVar, e] at q; exact q.elim
    | some z =>
      cases z with
      | own xs => simp only [dVar, e] at q; exact q.elim
      | val v =>
        simp only [dVar, e] at q
        obtain ⟨u, h1, h2⟩ := ok.env i v e
        exact ⟨u, h1, q l u (Step.refl l) ok h2⟩
theorem j_bin {op : Operator} {f : PV → PV → S → R S PV} (ho : OJ X g (binaryOp op) f) (ha : JE X g a da) (hb : JE X g b db) : JE X g (.BinOp a op b pos) (dBin f da db) := by
  refine ⟨fun pins s σ H Q I h => ?_⟩
  obtain ⟨l, st, rfl, ok, h⟩ := h
  refine wpAny_BinOp (binT (R := fun x y H2 => ∃ l2 st2 p q, l2.H = H2 ∧ Sok X.K g l2 st2 σ ∧ RepG X.K g l2 p x ∧ RepG X.K g l2 q y ∧ Run X.K g (f p q st2) l2 σ Q) ha hb I ?_ fun v u s2 x y H2 I2 rx ry q => ?_)
  · refine ⟨l, st, rfl, ok, Run.mono (Run.bind h) fun u H1 ⟨l1, s1, p, e1, ok1, r1, st1, h1⟩ => ?_⟩
    refine ⟨l1, s1, e1, ok1, Run.mono (Run.bind h1) fun w H2 ⟨l2, s2, q, e2, ok2, r2, st2, h2⟩ => ?_⟩
    exact ⟨l2, s2, p, q, e2, ok2, st2.rep r1, r2, h2⟩
  · obtain ⟨l2, st2, p, q, rfl, ok2, rp, rq, h⟩ := q
    exact ho pins s2 σ x y v u Q l2 st2 p q I2 rx ry ok2 rp rq h
end
end L3
namespace L3
open PySem PySem.Spec PyProof.Rows L2
@[simp] def orB {s a : Type} (x y : R s a) : R s a := match x with
  | .bad => y
  | r => r
section
variable {X : Cx} {g : Gx}
theorem OJ.or {fn : Value → Value → Sem Value} {f f' : PV → PV → S → R S PV} (h : OJ X g fn f) (h' : OJ X g fn f') : OJ X g fn (fun p q s => orB (f p q s) (f' p q s)) :=
  fun pins s σ x y v u Q l st p q I rx ry ok rp rq r => by
    have r : Run X.K g (orB (f p q st) (f' p q st)) l σ Q := r
    cases e : f p q st with
    | bad => rw [e] at r; exact h' pins s σ x y v u Q l st p q I rx ry ok rp rq r
    | ok w t => rw [e] at r; exact h pins s σ x y v u Q l st p q I rx ry ok rp rq (by rw [e]; exact r)
    | exn w t => rw [e] at r; exact h pins s σ x y v u Q l st p q I rx ry ok rp rq (by rw [e]; exact r)
theorem UJ.or {fn : Value → Sem Value} {f f' : PV → S → R S PV} (h : UJ X g fn f) (h' : UJ X g fn f') : UJ X g fn (fun p s => orB (f p s) (f' p s)) :=
  fun pins s σ x v Q l st p I rx ok rp r => by
    have r : Run X.K g (orB (f p st) (f' p st)) l σ Q := r
    cases e : f p st with
    | bad => rw [e] at r; exact h' pins s σ x v Q l st p I rx ok rp r
    | ok w t => rw [e] at r; exact h pins s σ x v Q l st p I rx ok rp (by rw [e]; exact r)
    | exn w t => rw [e] at r; exact h pins s σ x v Q l st p I rx ok rp (by rw [e]; exact r)
theorem CJ.or {fn : List Value → Sem Value} {f f' : List PV → S → R S PV} (h : CJ X g fn f) (h' : CJ X g fn f') : CJ X g fn (fun p s => orB (f p s) (f' p s)) :=
  fun pins s σ x v Q l st p I rx ok rp r => by
    have r : Run X.K g (orB (f p st) (f' p st)) l σ Q := r
    cases e : f p st with
    | bad => rw [e] at r; exact h' pins s σ x v Q l st p I rx ok rp r
    | ok w t => rw [e] at r; exact h pins s σ x v Q l st p I rx ok rp (by rw [e]; exact r)
    | exn w t => rw [e] at r; exact h pins s σ x v Q l st p I rx ok rp (by rw [e]; exact r)
end
@[simp] def fI2 (F : Int → Int → Option PV) : PV → PV → S → R S PV := fun p q s => match p, q with
  | .int i, .int j => (match F i j with | some v => .ok v s | none => .bad)
  | _, _ => .bad
section
variable {X : Cx} {g : Gx}
/-- two ints by a rule of the layer -/
theorem OJ.ints {fn : Value → Value → Sem Value} {r : R2} {F : Int → Int → Option PV} (h : OpR X fn r)
    (i : ∀ (i j : Int) v (H : Hp) (Q : VK), F i j = some v → (∀ u, (∀ l, RepG X.K g l v u) → Q u H) → r (.int i) (.int j) H Q) : OJ X g fn (fI2 F) :=
  OJ.of h fun l st σ p q x y Q ok rp rq run => by
    unfold fI2 at run
    split at run
    · rename_i a b
      cases e : F a b with
      | none => rw [e] at run; exact run.elim
      | some v =>
        rw [e] at run
        have ex : x = .int a := rp
        have ey : y = .int b := rq
        subst ex ey
        exact i a b v l.H Q e fun u hu => run l u (Step.refl l) ok (hu l)
    · exact run.elim
theorem o_addI : OJ X g (binaryOp .Add) (fI2 fun i j => some (.int (i + j))) := OJ.ints op_add fun i j v H Q e q => ⟨i, j, rfl, rfl, q _ fun l => by cases e; rfl⟩
theorem o_subI : OJ X g (binaryOp .Sub) (fI2 fun i j => some (.int (i - j))) := OJ.ints op_sub fun i j v H Q e q => ⟨i, j, rfl, rfl, q _ fun l => by cases e; rfl⟩
/-- bits of an int -/
def ib (i : Int) : Nat := i.natAbs.log2 + 1
@[simp] def FMul (i j : Int) : Option PV := if ib i + ib j ≤ 1000000 then some (.int (i * j)) else none
theorem o_mulI : OJ X g (binaryOp .Mult) (fI2 FMul) := OJ.ints op_mulW fun i j v H Q e q => by
  unfold FMul at e
  split at e
  · cases e
    rename_i h
    exact ⟨i, j, rfl, rfl, by unfold CMulW; unfold ib at h; omega, q _ fun l => rfl⟩
  · cases e
@[simp] def FFdiv (i j : Int) : Option PV := if 0 < j ∧ ib j ≤ 9000 then some (.int (i / j)) else if j < 0 ∧ j.natAbs < 1073741824 then some (.int (i.fdiv j)) else none
theorem o_fdivI : OJ X g (binaryOp .FloorDiv) (fI2 FFdiv) := OJ.ints (OpR.or op_fdivW op_fdivN) fun i j v H Q e q => by
  unfold FFdiv at e
  split at e
  · cases e
    rename_i h
    exact .inl ⟨i, j, rfl, rfl, ⟨h.1, by have := h.2; unfold ib at this; omega⟩, q _ fun l => rfl⟩
  · split at e
    · cases e
      rename_i h
      exact .inr ⟨i, j, rfl, rfl, ⟨by omega, h.2⟩, q _ fun l => rfl⟩
    · cases e
@[simp] def FMod (i j : Int) : Option PV := if j ≠ 0 then some (.int (i.fmod j)) else none
theorem o_modI : OJ X g (binaryOp .Mod) (fI2 FMod) := OJ.ints op_modN fun i j v H Q e q => by
  unfold FMod at e
  split at e
  · cases e
    rename_i h
    exact ⟨i, j, rfl, rfl, h, q _ fun l => rfl⟩
  · cases e
@[simp] def FPow (i j : Int) : Option PV := if 0 ≤ j ∧ j ≤ 1000000 ∧ i.natAbs < 2 ^ 64 then some (.int (i ^ j.toNat)) else none
theorem o_powI : OJ X g (binaryOp .Pow) (fI2 FPow) := OJ.ints op_pow fun i j v H Q e q => by
  unfold FPow at e
  split at e
  · cases e
    rename_i h
    exact ⟨i, j, rfl, rfl, h, q _ fun l => rfl⟩
  · cases e
theorem o_lt : OJ X g (compareOp .Lt) (fI2 fun i j => some (.bl (decide (i < j)))) := OJ.ints op_lt fun i j v H Q e q => ⟨i, j, rfl, rfl, q _ fun l => by cases e; rfl⟩
theorem o_le : OJ X g (compareOp .LtE) (fI2 fun i j => some (.bl (decide (i ≤ j)))) := OJ.ints op_le fun i j v H Q e q => ⟨i, j, rfl, rfl, q _ fun l => by cases e; rfl⟩
theorem o_gt : OJ X g (compareOp .Gt) (fI2 fun i j => some (.bl (decide (j < i)))) := OJ.ints op_gt fun i j v H Q e q => ⟨i, j, rfl, rfl, q _ fun l => by cases e; rfl⟩
theorem o_ge : OJ X g (compareOp .GtE) (fI2 fun i j => some (.bl (decide (j ≤ i)))) := OJ.ints op_ge fun i j v H Q e q => ⟨i, j, rfl, rfl, q _ fun l => by cases e; rfl⟩
end
@[simp] def fCat : PV → PV → S → R S PV := fun p q s => match p, q with
  | .lst xs, .lst ys => if xs.length + ys.length ≤ 16777216 then .ok (.lst (xs ++ ys)) s else .bad
  | .str x, .str y => if x.length + y.length ≤ 16777216 then .ok (.str (x ++ y)) s else .bad
  | _, _ => .bad
end L3
namespace L3
open PySem PySem.Spec PyProof.Rows L2
theorem line_eq : (sizeLine : Nat) = 16777216 := sizeLine_eq
section
variable {K : PySem.W.Frag} {g : Gx} {l : Lc} {s : S} {σ : St} {Q : VK} {xs : List PV} {vs : List V}
theorem Run.lst (run : Run K g (.ok (.lst xs) s) l σ Q) (ok : Sok K g l s σ) (r : RepGL K g l xs vs) (p : Addr) (hp : l.H p = none) : Q (.ref p) (upd l.H p (.lst vs)) :=
  run ⟨l.al, l.M, upd l.H p (.lst vs)⟩ _ (Step.alloc hp) (ok.alloc hp) ⟨p, vs, rfl, ok.fresh hp, upd_same, (Step.alloc hp).reps r⟩
theorem Run.tup (run : Run K g (.ok (.tup xs) s) l σ Q) (ok : Sok K g l s σ) (r : RepGL K g l xs vs) (p : Addr) (hp : l.H p = none) : Q (.ref p) (upd l.H p (.tup vs)) :=
  run ⟨l.al, l.M, upd l.H p (.tup vs)⟩ _ (Step.alloc hp) (ok.alloc hp) ⟨p, vs, rfl, .inl ⟨ok.fresh hp, .inl upd_same⟩, (Step.alloc hp).reps r⟩
end
theorem RepL.drop {K : PySem.W.Frag} {CR : Addr} {al : List Addr} {L : Addr → Prop} {H : Hp} : ∀ (n : Nat) {xs : List PV} {vs : List V}, RepL K CR al L H xs vs → RepL K CR al L H (xs.drop n) (vs.drop n)
  | 0, _, _, h => h
  | n + 1, [], vs, h => by have e : vs = [] := h; rw [e]; rfl
  | n + 1, x :: xs, vs, h => by
    obtain ⟨v, r, e, _, h2⟩ := h
    rw [e]
    exact RepL.drop n h2
theorem RepL.take {K : PySem.W.Frag} {CR : Addr} {al : List Addr} {L : Addr → Prop} {H : Hp} : ∀ (n : Nat) {xs : List PV} {vs : List V}, RepL K CR al L H xs vs → RepL K CR al L H (xs.take n) (vs.take n)
  | 0, _, _, h => rfl
  | n + 1, [], vs, h => by have e : vs = [] := h; rw [e]; rfl
  | n + 1, x :: xs, vs, h => by
    obtain ⟨v, r, e, h1, h2⟩ := h
    rw [e]
    exact ⟨v, r.take n, rfl, h1, RepL.take n h2⟩
theorem RepL.eraseIdx {K : PySem.W.Frag} {CR : Addr} {al : List Addr} {L : Addr → Prop} {H : Hp} : ∀ (n : Nat) {xs : List PV} {vs : List V}, RepL K CR al L H xs vs → RepL K CR al L H (xs.eraseIdx n) (vs.eraseIdx n)
  | 0, [], vs, h => by have e : vs = [] := h; rw [e]; rfl
  | 0, x :: xs, vs, h => by obtain ⟨v, r, e, h1, h2⟩ := h; rw [e]; exact h2
  | n + 1, [], vs, h => by have e : vs = [] := h; rw [e]; rfl
  | n + 1, x :: xs, vs, h => by
    obtain ⟨v, r, e, h1, h2⟩ := h
    rw [e]
    exact ⟨v, r.eraseIdx n, rfl, h1, RepL.eraseIdx n h2⟩
theorem RepL.set {K : PySem.W.Frag} {CR : Addr} {al : List Addr} {L : Addr → Prop} {H : Hp} {y : PV} {w : V} (hy : Rep K CR al L H y w) : ∀ (n : Nat) {xs : List PV} {vs : List V}, RepL K CR al L H xs vs → RepL K CR al L H (xs.set n y) (vs.set n w)
  | n, [], vs, h => by have e : vs = [] := h; rw [e]; cases n <;> rfl
  | 0, x :: xs, vs, h => by obtain ⟨v, r, e, h1, h2⟩ := h; rw [e]; exact ⟨w, r, rfl, hy, h2⟩
  | n + 1, x :: xs, vs, h => by
    obtain ⟨v, r, e, h1, h2⟩ := h
    rw [e]
    exact ⟨v, r.set n w, rfl, h1, RepL.set hy n h2⟩
theorem RepL.flat {K : PySem.W.Frag} {CR : Addr} {al : List Addr} {L : Addr → Prop} {H : Hp} {xs : List PV} {vs : List V} (h : RepL K CR al L H xs vs) : ∀ n, RepL K CR al L H (List.replicate n xs).flatten (List.replicate n vs).flatten
  | 0 => rfl
  | n + 1 => by
    rw [List.replicate_succ, List.replicate_succ, List.flatten_cons, List.flatten_cons]
    exact h.append (RepL.flat h n)
/-- xs[lo:hi] -/
def cutP (xs : List PV) (lo hi : Option Int) : List PV := (xs.drop (HT.sIx xs.length 0 lo)).take (HT.sIx xs.length xs.length hi - HT.sIx xs.length 0 lo)
theorem RepL.cut {K : PySem.W.Frag} {CR : Addr} {al : List Addr} {L : Addr → Prop} {H : Hp} {xs : List PV} {vs : List V} (h : RepL K CR al L H xs vs) (lo hi : Option Int) : RepL K CR al L H (cutP xs lo hi) (cutV vs lo hi) := by
  unfold cutP cutV
  rw [h.length]
  exact (h.drop _).take _
theorem RepL.at {K : PySem.W.Frag} {CR : Addr} {al : List Addr} {L : Addr → Prop} {H : Hp} {xs : List PV} {vs : List V} (h : RepL K CR al L H xs vs) {i : Int} {x : PV} (e : atI xs i = some x) : ∃ v, atI vs i = some v ∧ Rep K CR al L H x v := by
  unfold atI at e ⊢
  rw [← h.length]
  cases q : ixN xs.length i with
  | none => rw [q] at e; cases e
  | some j => rw [q] at e; exact h.get e
mutual
def PV.dat : PV → Option PyData
  | .non => some .none
  | .bl b => some (.bool b)
  | .int i => some (.int i)
  | .str x => some (.str x)
  | .tup xs => (match PV.datL xs with | some ds => some (.tuple ds) | none => none)
  | .lst xs => (match PV.datL xs with | some ds => some (.list ds) | none => none)
  | .frz xs => (match PV.datL xs with | some ds => some (.list ds) | none => none)
  | _ => none
def PV.datL : List PV → Option (List PyData)
  | [] => some []
  | x :: xs => (match x.dat, PV.datL xs with | some d, some ds => some (d :: ds) | _, _ => none)
end
mutual
theorem PV.dat_dp {K : PySem.W.Frag} {CR : Addr} {al : List Addr} {L : Addr → Prop} {H : Hp} : ∀ (x : PV) (d : PyData) (v : V), x.dat = some d → Rep K CR al L H x v → Dp K H v d
  | .non, d, v, e, r => by cases e; have q : v = .non := r; rw [q]; exact .non
  | .bl b, d, v, e, r => by cases e; have q : v = .bl b := r; rw [q]; exact .bl b
  | .int i, d, v, e, r => by cases e; have q : v = .int i := r; rw [q]; exact .int i
  | .str x, d, v, e, r => by cases e; have q : v = .str x := r; rw [q]; exact .str x
  | .tup xs, d, v, e, r => by
    obtain ⟨a, vs, rfl, h, r⟩ := r
    unfold PV.dat at e
    cases q : PV.datL xs with
    | none => rw [q] at e; cases e
    | some ds => rw [q] at e; cases e; exact .tup (SqT.of2 h) (PV.datL_dp xs ds vs q r)
  | .lst xs, d, v, e, r => by
    obtain ⟨a, vs, rfl, _, h, r⟩ := r
    unfold PV.dat at e
    cases q : PV.datL xs with
    | none => rw [q] at e; cases e
    | some ds => rw [q] at e; cases e; exact .lst (SqL.of h) (PV.datL_dp xs ds vs q r)
  | .frz xs, d, v, e, r => by
    obtain ⟨a, vs, rfl, h, r⟩ := r
    unfold PV.dat at e
    cases q : PV.datL xs with
    | none => rw [q] at e; cases e
    | some ds => rw [q] at e; cases e; exact .lst (SqL.of2 h) (PV.datL_dp xs ds vs q r)
  | .rat q, d, v, e, r => nomatch e
  | .obj C ns xs, d, v, e, r => nomatch e
  | .ptr n, d, v, e, r => nomatch e
  | .adr a, d, v, e, r => nomatch e
  | .ty n, d, v, e, r => nomatch e
  | .dk ks xs, d, v, e, r => nomatch e
  | .dt ks xs, d, v, e, r => nomatch e
  | .exc C ns xs, d, v, e, r => nomatch e
theorem PV.datL_dp {K : PySem.W.Frag} {CR : Addr} {al : List Addr} {L : Addr → Prop} {H : Hp} : ∀ (xs : List PV) (ds : List PyData) (vs : List V), PV.datL xs = some ds → RepL K CR al L H xs vs → DpAll K H vs ds
  | [], ds, vs, e, r => by cases e; have q : vs = [] := r; rw [q]; exact .nil
  | x :: xs, ds, vs, e, r => by
    obtain ⟨v, w, rfl, h1, h2⟩ := r
    unfold PV.datL at e
    cases q1 : x.dat with
    | none => rw [q1] at e; cases e
    | some d =>
      cases q2 : PV.datL xs with
      | none => rw [q1, q2] at e; cases e
      | some ds' => rw [q1, q2] at e; cases e; exact .cons (PV.dat_dp x d v q1 h1) (PV.datL_dp xs ds' w q2 h2)
end
def fEqD (neg : Bool) : PV → PV → S → R S PV := fun p q s => match p.dat, q.dat with
  | some d, some e => if SeqAt.shaped d = true ∧ SeqAt.shaped e = true then .ok (.bl (xor neg (PyData.eqv d e))) s else .bad
  | _, _ => .bad
section
variable {X : Cx} {g : Gx}
theorem o_eqD (hu : X.A.units + 64 < cLine) : OJ X g (compareOp .Eq) (fEqD false) := OJ.of (op_eqD hu) fun l st σ p q x y Q ok rp rq run => by
  unfold fEqD at run
  split at run
  · rename_i d e h1 h2
    split at run
    · rename_i h3
      refine ⟨d, e, p.dat_dp d x h1 rp, q.dat_dp e y h2 rq, h3.1, h3.2, ?_⟩
      have z := run l (.bl (xor false (PyData.eqv d e))) (Step.refl l) ok rfl
      rwa [Bool.false_xor] at z
    · exact run.elim
  · exact run.elim
theorem o_neD (hu : X.A.units + 64 < cLine) : OJ X g (compareOp .NotEq) (fEqD true) := OJ.of (op_neD hu) fun l st σ p q x y Q ok rp rq run => by
  unfold fEqD at run
  split at run
  · rename_i d e h1 h2
    split at run
    · rename_i h3
      refine ⟨d, e, p.dat_dp d x h1 rp, q.dat_dp e y h2 rq, h3.1, h3.2, ?_⟩
      have z := run l (.bl (xor true (PyData.eqv d e))) (Step.refl l) ok rfl
      rwa [Bool.true_xor] at z
    · exact run.elim
  · exact run.elim
@[simp] def PV.isNon : PV → Bool
  | .non => true
  | _ => false
@[simp] def fIsN (neg : Bool) : PV → PV → S → R S PV := fun p q s => match q with
  | .non => .ok (.bl (xor neg p.isNon)) s
  | _ => .bad
theorem rep_non {K : PySem.W.Frag} {CR : Addr} {al : List Addr} {L : Addr → Prop} {H : Hp} {p : PV} {x : V} (r : Rep K CR al L H p x) : decide (x = .non) = p.isNon := by
  cases p with
  | non => have e : x = .non := r; rw [e]; rfl
  | bl b => have e : x = .bl b := r; rw [e]; rfl
  | int b => have e : x = .int b := r; rw [e]; rfl
  | str b => have e : x = .str b := r; rw [e]; rfl
  | rat q => obtain ⟨a, dx, e, _⟩ := r; rw [e]; rfl
  | tup q => obtain ⟨a, dx, e, _⟩ := r; rw [e]; rfl
  | lst q => obtain ⟨a, dx, e, _⟩ := r; rw [e]; rfl
  | frz q => obtain ⟨a, dx, e, _⟩ := r; rw [e]; rfl
  | obj C ns q => obtain ⟨a, dx, vs, e, _⟩ := r; rw [e]; rfl
  | ptr n => obtain ⟨a, _, e⟩ := r; rw [e]; rfl
  | adr n => have e : x = .ref n := r; rw [e]; rfl
  | ty n => have e : x = .ty n := r; rw [e]; rfl
  | dk ks q => obtain ⟨a, vs, e, _⟩ := r; rw [e]; rfl
  | dt ks q => obtain ⟨a, vs, e, _⟩ := r; rw [e]; rfl
  | exc C ns q => obtain ⟨a, d, vs, e, _⟩ := r; rw [e]; rfl
  | clo t q => have e : x = .ref t.f := r.1; rw [e]; rfl
theorem o_isN : OJ X g (compareOp .Is) (fIsN false) := OJ.of op_isN fun l st σ p q x y Q ok rp rq run => by
  cases q with
  | non => exact ⟨rq, run l _ (Step.refl l) ok (by rw [Bool.false_xor, rep_non rp]; rfl)⟩
  | _ => exact run.elim
theorem o_catL : OJ X g (binaryOp .Add) (fun p q s => match p, q with | .lst xs, .lst ys => if xs.length + ys.length ≤ 16777216 then .ok (.lst (xs ++ ys)) s else .bad | _, _ => .bad) :=
  OJ.of op_cat fun l st σ p q x y Q ok rp rq run => by
    split at run
    · split at run
      · rename_i h
        obtain ⟨a, vs, rfl, _, ha, ra⟩ := rp
        obtain ⟨b, ws, rfl, _, hb, rb⟩ := rq
        exact ⟨a, b, vs, ws, rfl, rfl, ha, hb, by rw [line_eq, ← ra.length, ← rb.length]; exact h, Run.lst run ok (ra.append rb)⟩
      · exact run.elim
    · exact run.elim
theorem o_catT : OJ X g (binaryOp .Add) (fun p q s => match p, q with | .tup xs, .tup ys => if xs.length + ys.length ≤ 16777216 then .ok (.tup (xs ++ ys)) s else .bad | _, _ => .bad) :=
  OJ.of op_catA fun l st σ p q x y Q ok rp rq run => by
    split at run
    · split at run
      · rename_i xs ys h
        obtain ⟨a, vs, rfl, ha, ra⟩ := rp
        obtain ⟨b, ws, rfl, hb, rb⟩ := rq
        refine ⟨a, b, vs, ws, rfl, rfl, SqT.of2 ha, SqT.of2 hb, by rw [line_eq, ← ra.length, ← rb.length]; exact h, fun e => ?_, fun _ e => ?_, fun _ _ => Run.tup run ok (ra.append rb)⟩
        · subst e
          have e2 : xs = [] := List.eq_nil_of_length_eq_zero ra.length
          subst e2
          exact run l _ (Step.refl l) ok ⟨b, ws, rfl, hb, rb⟩
        · subst e
          have e2 : ys = [] := List.eq_nil_of_length_eq_zero rb.length
          subst e2
          rw [List.append_nil] at run
          exact run l _ (Step.refl l) ok ⟨a, vs, rfl, ha, ra⟩
      · exact run.elim
    · exact run.elim
theorem o_catS : OJ X g (binaryOp .Add) (fun p q s => match p, q with | .str x, .str y => if x.length + y.length ≤ 16777216 then .ok (.str (x ++ y)) s else .bad | _, _ => .bad) :=
  OJ.of op_add_str fun l st σ p q x y Q ok rp rq run => by
    split at run
    · split at run
      · rename_i a b h
        exact ⟨a, b, rp, rq, by rw [line_eq]; exact h, run l _ (Step.refl l) ok rfl⟩
      · exact run.elim
    · exact run.elim
theorem o_repL : OJ X g (binaryOp .Mult) (fun p q s => match p, q with | .lst xs, .int k => if -(2 ^ 63) ≤ k ∧ k < 2 ^ 63 ∧ xs.length * k.toNat ≤ 16777216 then .ok (.lst (List.replicate k.toNat xs).flatten) s else .bad | _, _ => .bad) :=
  OJ.of op_rep fun l st σ p q x y Q ok rp rq run => by
    split at run
    · split at run
      · rename_i xs k h
        obtain ⟨a, vs, rfl, _, ha, ra⟩ := rp
        exact ⟨a, k, vs, rfl, rq, ha, h.1, h.2.1, by rw [line_eq, ← ra.length]; exact h.2.2, Run.lst run ok (ra.flat _)⟩
      · exact run.elim
    · exact run.elim
end
end L3
namespace L3
open PySem PySem.Spec PyProof.Rows L2
@[simp] def truP : PV → Option Bool
  | .non => some false
  | .bl b => some b
  | .int i => some (i != 0)
  | .str x => if x.length ≤ 16777216 then some ((x.length : Int) != 0) else none
  | .tup xs => some (!xs.isEmpty)
  | .lst xs => some (!xs.isEmpty)
  | .frz xs => some (!xs.isEmpty)
  | _ => none
@[simp] def dTru (d : DE) : DT := fun s => (d s).bind fun v s1 => match truP v with
  | some b => .ok b s1
  | none => .bad
@[simp] def dAndT (a b : DT) : DT := fun s => (a s).bind fun x s1 => match x with
  | true => b s1
  | false => .ok false s1
@[simp] def dOrT (a b : DT) : DT := fun s => (a s).bind fun x s1 => match x with
  | true => .ok true s1
  | false => b s1
@[simp] def dNotT (a : DT) : DT := fun s => (a s).bind fun x s1 => .ok (!x) s1
@[simp] def dAnd (a b : DE) : DE := fun s => (a s).bind fun x s1 => match x with
  | .bl true => b s1
  | .bl false => .ok (.bl false) s1
  | _ => .bad
@[simp] def dOr (a b : DE) : DE := fun s => (a s).bind fun x s1 => match x with
  | .bl true => .ok (.bl true) s1
  | .bl false => b s1
  | _ => .bad
@[simp] def dNot (a : DE) : DE := fun s => (a s).bind fun x s1 => match x with
  | .bl b => .ok (.bl (!b)) s1
  | _ => .bad
@[simp] def dIf (c : DT) (a b : DE) : DE := fun s => (c s).bind fun x s1 => match x with
  | true => a s1
  | false => b s1
@[simp] def dChain (f f' : PV → PV → S → R S PV) (da db dc : DE) : DE := fun s => (da s).bind fun x s1 => (db s1).bind fun y s2 => (f x y s2).bind fun z s3 => match z with
  | .bl true => (dc s3).bind fun w s4 => f' y w s4
  | .bl false => .ok (.bl false) s3
  | _ => .bad
theorem isEmpty_len {a b : Type} {xs : List a} {ys : List b} (h : xs.length = ys.length) : xs.isEmpty = ys.isEmpty := by
  cases xs <;> cases ys <;> first | rfl | cases h
section
variable {X : Cx} {g : Gx} {a b c e : Expr} {es : List Expr} {da db dc de : DE} {ta tb tc : DT} {dr : DA} {pos : Pos}
theorem j_cmp {op : CmpOp} {f : PV → PV → S → R S PV} (ho : OJ X g (compareOp op) f) (ha : JE X g a da) (hb : JE X g b db) (hm : behindInMarks op b = false := by first | exact nobehind _ (by decide) (by decide) | rfl | with_unfolding_all rfl) : JE X g (.Compare a [op] [b] pos) (dBin f da db) := by
  refine ⟨fun pins s σ H Q I h => ?_⟩
  obtain ⟨l, st, rfl, ok, h⟩ := h
  refine wpAny_Compare1 (binT (R := fun x y H2 => ∃ l2 st2 p q, l2.H = H2 ∧ Sok X.K g l2 st2 σ ∧ RepG X.K g l2 p x ∧ RepG X.K g l2 q y ∧ Run X.K g (f p q st2) l2 σ Q) ha hb I ?_ fun v u s2 x y H2 I2 rx ry q => ?_) hm
  · refine ⟨l, st, rfl, ok, Run.mono (Run.bind h) fun u H1 ⟨l1, s1, p, e1, ok1, r1, st1, h1⟩ => ?_⟩
    refine ⟨l1, s1, e1, ok1, Run.mono (Run.bind h1) fun w H2 ⟨l2, s2, q, e2, ok2, r2, st2, h2⟩ => ?_⟩
    exact ⟨l2, s2, p, q, e2, ok2, st2.rep r1, r2, h2⟩
  · obtain ⟨l2, st2, p, q, rfl, ok2, rp, rq, h⟩ := q
    exact ho pins s2 σ x y v u Q l2 st2 p q I2 rx ry ok2 rp rq h
/-- a value's truth, from its representation -/
theorem rep_tru {K : PySem.W.Frag} {l : Lc} {p : PV} {x : V} {k : Bool} (r : RepG K g l p x) (h : truP p = some k) : TruV K x l.H k := by
  cases p with
  | non => have e : x = .non := r; subst e; cases h; rfl
  | bl b => have e : x = .bl b := r; subst e; cases h; rfl
  | int i => have e : x = .int i := r; subst e; cases h; rfl
  | str z =>
    have e : x = .str z := r; subst e
    simp only [truP] at h
    split at h
    · cases h
      rename_i q
      exact ⟨by rw [line_eq]; exact q, rfl⟩
    · cases h
  | tup xs =>
    obtain ⟨a, vs, rfl, ha, ra⟩ := r
    cases h
    exact .inr (.inl ⟨vs, SqT.of2 ha, by rw [isEmpty_len ra.length]⟩)
  | lst xs =>
    obtain ⟨a, vs, rfl, _, ha, ra⟩ := r
    cases h
    exact .inl ⟨vs, SqL.of ha, by rw [isEmpty_len ra.length]⟩
  | frz xs =>
    obtain ⟨a, vs, rfl, ha, ra⟩ := r
    cases h
    exact .inl ⟨vs, SqL.of2 ha, by rw [isEmpty_len ra.length]⟩
  | _ => cases h
/-- any expression whose test is its value's truth -/
theorem jt (ha : JE X g a da) (he : ∀ whole, isTrue a X.env whole = (do let v ← whole; standAt a.pos; holding [v] (truthy v)) := by intro _; rfl) : JT X g a (dTru da) :=
  PT.cq (pt_truth ha he) fun σ H Q q => by
    obtain ⟨l, s, rfl, ok, q⟩ := q
    refine ⟨l, s, rfl, ok, Run.mono (Run.bindT q) fun u H1 ⟨l1, s1, p, e1, ok1, r1, st1, h1⟩ => ?_⟩
    subst e1
    cases e : truP p with
    | none => rw [e] at h1; exact h1.elim
    | some k => rw [e] at h1; exact ⟨k, rep_tru r1 e, h1 l1 (Step.refl l1) ok1⟩
/-- a comparison as a test -/
theorem jt_cmp {op : CmpOp} {f : PV → PV → S → R S PV} (ho : OJ X g (compareOp op) f) (ha : JE X g a da) (hb : JE X g b db) (hm : behindInMarks op b = false := by first | exact nobehind _ (by decide) (by decide) | rfl | with_unfolding_all rfl) : JT X g (.Compare a [op] [b] pos) (dTru (dBin f da db)) := by
  refine ⟨fun pins s σ H Q I h => ?_⟩
  obtain ⟨l, st, rfl, ok, h⟩ := h
  refine wpAny_isTrue_Compare1 (binT (R := fun x y H2 => ∃ l2 st2 p q, l2.H = H2 ∧ Sok X.K g l2 st2 σ ∧ RepG X.K g l2 p x ∧ RepG X.K g l2 q y ∧ RunT X.K g ((f p q st2).bind fun v s1 => match truP v with | some b => .ok b s1 | none => .bad) l2 σ Q) ha hb I ?_ fun v u s2 x y H2 I2 rx ry q => ?_) hm
  · have h' : RunT X.K g ((da st).bind fun x s1 => (db s1).bind fun y s2 => (f x y s2).bind fun v s1 => match truP v with | some b => .ok b s1 | none => .bad) l σ Q := by
      have e : dTru (dBin f da db) st = ((da st).bind fun x s1 => (db s1).bind fun y s2 => (f x y s2).bind fun v s1 => match truP v with | some b => .ok b s1 | none => .bad) := by
        simp only [dTru, dBin]
        cases da st <;> try rfl
        rename_i v t
        show ((db t).bind _).bind _ = (db t).bind _
        cases db t <;> rfl
      rw [e] at h
      exact h
    refine ⟨l, st, rfl, ok, Run.mono (Run.bindT h') fun u H1 ⟨l1, s1, p, e1, ok1, r1, st1, h1⟩ => ?_⟩
    refine ⟨l1, s1, e1, ok1, Run.mono (Run.bindT h1) fun w H2 ⟨l2, s2, q, e2, ok2, r2, st2, h2⟩ => ?_⟩
    exact ⟨l2, s2, p, q, e2, ok2, st2.rep r1, r2, h2⟩
  · obtain ⟨l2, st2, p, q, rfl, ok2, rp, rq, h⟩ := q
    refine thn (ho pins s2 σ x y v u _ l2 st2 p q I2 rx ry ok2 rp rq (Run.bindT h)) fun w s3 ⟨z, H3, I3, r3, l3, s3', pz, e3, ok3, r3', st3, h3⟩ => ?_
    subst e3
    cases e : truP pz with
    | none => rw [e] at h3; exact h3.elim
    | some k =>
      rw [e] at h3
      exact tru_ok pins s3 σ l3.H z w Q I3 r3 ⟨k, rep_tru r3' e, h3 l3 (Step.refl l3) ok3⟩
theorem jt_not (ha : JT X g a ta) : JT X g (.UnaryOp .Not a pos) (dNotT ta) := PT.cq (pt_not ha) fun σ H Q q => by
  obtain ⟨l, s, rfl, ok, q⟩ := q
  refine ⟨l, s, rfl, ok, RunT.mono (RunT.bindT q) fun u H1 ⟨l1, s1, e1, ok1, st1, h1⟩ => ?_⟩
  subst e1
  exact h1 l1 (Step.refl l1) ok1
theorem jw_and1 (ha : JT X g a ta) : JW X g (.BoolOp .And [a] pos) ta := pw_and1 ha
theorem jw_or1 (ha : JT X g a ta) : JW X g (.BoolOp .Or [a] pos) ta := pw_or1 ha
theorem jw_and {rest : List Expr} (ha : JT X g a ta) (hb : JW X g (.BoolOp .And (b :: rest) pos) tb) : JW X g (.BoolOp .And (a :: b :: rest) pos) (dAndT ta tb) := PW.cq (pw_and ha hb) fun σ H Q q => by
  obtain ⟨l, s, rfl, ok, q⟩ := q
  refine ⟨l, s, rfl, ok, RunT.mono (RunT.bindT q) fun u H1 ⟨l1, s1, e1, ok1, st1, h1⟩ => ?_⟩
  subst e1
  cases u with
  | true => exact ⟨l1, s1, rfl, ok1, h1⟩
  | false => exact h1 l1 (Step.refl l1) ok1
theorem jw_or {rest : List Expr} (ha : JT X g a ta) (hb : JW X g (.BoolOp .Or (b :: rest) pos) tb) : JW X g (.BoolOp .Or (a :: b :: rest) pos) (dOrT ta tb) := PW.cq (pw_or ha hb) fun σ H Q q => by
  obtain ⟨l, s, rfl, ok, q⟩ := q
  refine ⟨l, s, rfl, ok, RunT.mono (RunT.bindT q) fun u H1 ⟨l1, s1, e1, ok1, st1, h1⟩ => ?_⟩
  subst e1
  cases u with
  | false => exact ⟨l1, s1, rfl, ok1, h1⟩
  | true => exact h1 l1 (Step.refl l1) ok1
theorem jt_w {t : DT} (h : JW X g e t) : JT X g e t := h.pt
theorem j_one {op} (h : JE X g a da) : JE X g (.BoolOp op [a] pos) da := pe_one h
theorem j_and {rest : List Expr} (ha : JE X g a da) (hb : JE X g (.BoolOp .And (b :: rest) pos) db) : JE X g (.BoolOp .And (a :: b :: rest) pos) (dAnd da db) := PE.cq (pe_and ha hb) fun pins s σ H Q I q => by
  obtain ⟨l, s, rfl, ok, q⟩ := q
  refine ⟨l, s, rfl, ok, Run.mono (Run.bind q) fun u H1 ⟨l1, s1, p, e1, ok1, r1, st1, h1⟩ => ?_⟩
  subst e1
  cases p with
  | bl k =>
    cases (show u = .bl k from r1)
    refine ⟨k, rfl, ?_⟩
    cases k with
    | true => exact ⟨l1, s1, rfl, ok1, h1⟩
    | false => exact h1 l1 _ (Step.refl l1) ok1 rfl
  | _ => exact h1.elim
theorem j_or {rest : List Expr} (ha : JE X g a da) (hb : JE X g (.BoolOp .Or (b :: rest) pos) db) : JE X g (.BoolOp .Or (a :: b :: rest) pos) (dOr da db) := PE.cq (pe_or ha hb) fun pins s σ H Q I q => by
  obtain ⟨l, s, rfl, ok, q⟩ := q
  refine ⟨l, s, rfl, ok, Run.mono (Run.bind q) fun u H1 ⟨l1, s1, p, e1, ok1, r1, st1, h1⟩ => ?_⟩
  subst e1
  cases p with
  | bl k =>
    cases (show u = .bl k from r1)
    refine ⟨k, rfl, ?_⟩
    cases k with
    | false => exact ⟨l1, s1, rfl, ok1, h1⟩
    | true => exact h1 l1 _ (Step.refl l1) ok1 rfl
  | _ => exact h1.elim
theorem j_not (ha : JE X g a da) : JE X g (.UnaryOp .Not a pos) (dNot da) := PE.cq (pe_not ha) fun pins s σ H Q I q => by
  obtain ⟨l, s, rfl, ok, q⟩ := q
  refine ⟨l, s, rfl, ok, Run.mono (Run.bind q) fun u H1 ⟨l1, s1, p, e1, ok1, r1, st1, h1⟩ => ?_⟩
  subst e1
  cases p with
  | bl k =>
    cases (show u = .bl k from r1)
    exact ⟨k, rfl, h1 l1 _ (Step.refl l1) ok1 rfl⟩
  | _ => exact h1.elim
theorem j_if (hc : JT X g c tc) (ha : JE X g a da) (hb : JE X g b db) : JE X g (.IfExp c a b pos) (dIf tc da db) := PE.cq (pe_ifExp hc ha hb) fun pins s σ H Q I q => by
  obtain ⟨l, s, rfl, ok, q⟩ := q
  refine ⟨l, s, rfl, ok, RunT.mono (RunT.bind q) fun u H1 ⟨l1, s1, e1, ok1, st1, h1⟩ => ?_⟩
  subst e1
  cases u with
  | true => exact ⟨l1, s1, rfl, ok1, h1⟩
  | false => exact ⟨l1, s1, rfl, ok1, h1⟩
end
end L3
namespace L3
open PySem PySem.Spec PyProof.Rows L2
@[simp] def dTup (d : DA) : DE := fun s => (d s).bind fun xs s1 => if xs.length ≤ 1000 then .ok (.tup xs) s1 else .bad
@[simp] def dLst (d : DA) : DE := fun s => (d s).bind fun xs s1 => if xs.length ≤ 1000 then .ok (.lst xs) s1 else .bad
/-- a display that becomes a shared list -/
@[simp] def dNew (d : DA) : DE := fun s => (d s).bind fun xs s1 => if xs.length ≤ 1000 then .ok (.ptr s1.mu.length) ⟨s1.env, s1.mu ++ [.lst xs]⟩ else .bad
@[simp] def optR {s a : Type} (o : Option a) (t : s) : R s a := match o with
  | some v => .ok v t
  | none => .bad
/-- what a value is as a list -/
@[simp] def asL (mu : List MO) : PV → Option (List PV)
  | .lst xs => some xs
  | .tup xs => some xs
  | .frz xs => some xs
  | .ptr n => (match mu[n]? with
    | some (.lst xs) => some xs
    | _ => none)
  | _ => none
@[simp] def fIx : PV → PV → S → R S PV := fun p q s => match q with
  | .int i => (match asL s.mu p with
    | some xs => optR (atI xs i) s
    | none => .bad)
  | _ => .bad
abbrev DO := S → R S (Option Int)
@[simp] def dNone : DO := fun s => .ok none s
@[simp] def dSome (d : DE) : DO := fun s => (d s).bind fun v s1 => match v with
  | .int i => .ok (some i) s1
  | _ => .bad
@[simp] def fCut (v : PV) (a b : Option Int) (s : S) : R S PV := match v with
  | .lst xs => .ok (.lst (cutP xs a b)) s
  | .tup xs => .ok (.tup (cutP xs a b)) s
  | _ => .bad
@[simp] def dSlice (d : DE) (lo hi : DO) : DE := fun s => (d s).bind fun v s1 => (lo s1).bind fun a s2 => (hi s2).bind fun b s3 => fCut v a b s3
@[simp] def fLen : List PV → S → R S PV := fun ps s => match ps with
  | [.str x] => if x.length ≤ 16777216 then .ok (.int x.length) s else .bad
  | [p] => (match asL s.mu p with
    | some xs => .ok (.int xs.length) s
    | none => .bad)
  | _ => .bad
@[simp] def fList : List PV → S → R S PV := fun ps s => match ps with
  | [p] => (match asL s.mu p with
    | some xs => .ok (.lst xs) s
    | none => .bad)
  | _ => .bad
@[simp] def fTuple : List PV → S → R S PV := fun ps s => match ps with
  | [p] => (match asL s.mu p with
    | some xs => .ok (.tup xs) s
    | none => .bad)
  | _ => .bad
@[simp] def fAbsI : List PV → S → R S PV := fun ps s => match ps with
  | [.int i] => .ok (.int i.natAbs) s
  | _ => .bad
@[simp] def fMax2 : List PV → S → R S PV := fun ps s => match ps with
  | [.int i, .int j] => .ok (.int (max i j)) s
  | _ => .bad
@[simp] def fMin2 : List PV → S → R S PV := fun ps s => match ps with
  | [.int i, .int j] => .ok (.int (min i j)) s
  | _ => .bad
@[simp] def fIntB : List PV → S → R S PV := fun ps s => match ps with
  | [.int i] => .ok (.int i) s
  | [.bl b] => .ok (.int (if b then 1 else 0)) s
  | _ => .bad
@[simp] def fBool : List PV → S → R S PV := fun ps s => match ps with
  | [.int i] => .ok (.bl (i != 0)) s
  | [.bl b] => .ok (.bl b) s
  | _ => .bad
section
variable {X : Cx} {g : Gx} {a b c e : Expr} {es : List Expr} {da db dc de : DE} {dr : DA} {pos : Pos}
theorem ja_nil : JA X g [] dNil := PA.cq pa_nil fun σ H Q q => by
  obtain ⟨l, s, rfl, ok, q⟩ := q
  exact q l [] (Step.refl l) ok rfl
theorem ja_cons (ha : JE X g e de) (hr : JA X g es dr) (hs : starEach (e :: es) X.env = (false, eval e X.env) :: starEach es X.env := by rfl) : JA X g (e :: es) (dCons de dr) := PA.cq (pa_cons ha hr hs) fun σ H Q q => by
  obtain ⟨l, s, rfl, ok, q⟩ := q
  refine ⟨l, s, rfl, ok, Run.mono (Run.bindA q) fun u H1 ⟨l1, s1, p, e1, ok1, r1, st1, h1⟩ => ?_⟩
  refine ⟨l1, s1, e1, ok1, RunA.mono (RunA.bindA h1) fun us H2 ⟨l2, s2, ps, e2, ok2, r2, st2, h2⟩ => ?_⟩
  subst e2
  exact h2 l2 (u :: us) (Step.refl l2) ok2 ⟨u, us, rfl, st2.rep r1, r2⟩
theorem j_tup {x1} (h : JA X g es dr) : JE X g (.Tuple es x1 pos) (dTup dr) := PE.cq (pe_tup h) fun pins s σ H Q I q => by
  obtain ⟨l, s, rfl, ok, q⟩ := q
  refine ⟨l, s, rfl, ok, RunA.mono (RunA.bind q) fun u H1 ⟨l1, s1, p, e1, ok1, r1, st1, h1⟩ => ?_⟩
  subst e1
  split at h1
  · rename_i z
    exact ⟨by rw [line_eq, ← r1.length]; omega, Run.tup h1 ok1 r1⟩
  · exact h1.elim
theorem j_lst (h : JA X g es dr) : JE X g (.List es pos) (dLst dr) := PE.cq (pe_lst h) fun pins s σ H Q I q => by
  obtain ⟨l, s, rfl, ok, q⟩ := q
  refine ⟨l, s, rfl, ok, RunA.mono (RunA.bind q) fun u H1 ⟨l1, s1, p, e1, ok1, r1, st1, h1⟩ => ?_⟩
  subst e1
  split at h1
  · rename_i z
    exact ⟨by rw [line_eq, ← r1.length]; omega, Run.lst h1 ok1 r1⟩
  · exact h1.elim
theorem j_callB {x : Str} {id : String} {f : List PV → S → R S PV} {p : Pos} (hc : CJ X g (fun us => call (.builtin id) us) f) (hg : Gl X x) (hm : X.mg x = none) (hv : bootBuiltins x = some (.builtin id)) (ha : JA X g (e :: es) dr) (hn : x ≠ "__name__" := by decide) (hdb : (x == ("__debug__" : Str)) = false := by decide)
    (he : starEach (e :: es) X.env = (false, eval e X.env) :: starEach es X.env := by rfl) (hpl : (backTo pos (starEach es X.env)).any (·.1) = false := by rfl) : JE X g (.Call (.Name x p) (e :: es) [] pos) (dFn f dr) := by
  refine ⟨fun pins s σ H Q I h => ?_⟩
  obtain ⟨l, st, rfl, ok, h⟩ := h
  refine wpAny_Call_Name_kw (ld_blt I hg hm hv ?_ hn hdb)
  refine PyProof.Rows.callWith_builtin1 (thn (ha.run pos pins s σ _ _ I ⟨l, st, rfl, ok, RunA.bind h⟩) fun us s1 ⟨vs, H1, I1, r1, l1, s1', ps, e1, ok1, rp, st1, h1⟩ => ?_) he hpl
  subst e1
  exact hc pins s1 σ vs us Q l1 s1' ps I1 r1 ok1 rp h1
theorem j_callTy {x : Str} {T : String} {f : List PV → S → R S PV} {p : Pos} (hc : CJ X g (fun us => call (.type T) us) f) (hg : Gl X x) (hm : X.mg x = none) (hv : bootBuiltins x = some (.type T)) (ha : JA X g (e :: es) dr) (hn : x ≠ "__name__" := by decide) (hdb : (x == ("__debug__" : Str)) = false := by decide)
    (he : starEach (e :: es) X.env = (false, eval e X.env) :: starEach es X.env := by rfl) (hpl : (backTo pos (starEach es X.env)).any (·.1) = false := by rfl) : JE X g (.Call (.Name x p) (e :: es) [] pos) (dFn f dr) := by
  refine ⟨fun pins s σ H Q I h => ?_⟩
  obtain ⟨l, st, rfl, ok, h⟩ := h
  refine wpAny_Call_Name_kw (ld_blt I hg hm hv ?_ hn hdb)
  refine PyProof.Rows.callWith_type1 (thn (ha.run pos pins s σ _ _ I ⟨l, st, rfl, ok, RunA.bind h⟩) fun us s1 ⟨vs, H1, I1, r1, l1, s1', ps, e1, ok1, rp, st1, h1⟩ => ?_) he hpl
  subst e1
  exact hc pins s1 σ vs us Q l1 s1' ps I1 r1 ok1 rp h1
/-- a value seen as a list: where it stands -/
theorem rep_asL {K : PySem.W.Frag} {l : Lc} {s : S} {σ : St} {p : PV} {x : V} {xs : List PV} (ok : Sok K g l s σ) (r : RepG K g l p x) (h : asL s.mu p = some xs) :
    ∃ a vs, x = .ref a ∧ (SqL K l.H a vs ∨ SqT K l.H a vs) ∧ RepGL K g l xs vs := by
  cases p with
  | lst ys => obtain ⟨a, vs, rfl, _, ha, ra⟩ := r; cases h; exact ⟨a, vs, rfl, .inl (SqL.of ha), ra⟩
  | tup ys => obtain ⟨a, vs, rfl, ha, ra⟩ := r; cases h; exact ⟨a, vs, rfl, .inr (SqT.of2 ha), ra⟩
  | frz ys => obtain ⟨a, vs, rfl, ha, ra⟩ := r; cases h; exact ⟨a, vs, rfl, .inl (SqL.of2 ha), ra⟩
  | ptr n =>
    obtain ⟨a, ha, rfl⟩ := r
    simp only [asL] at h
    cases e : s.mu[n]? with
    | none => rw [e] at h; cases h
    | some m =>
      rw [e] at h
      cases m with
      | lst ys =>
        cases h
        obtain ⟨vs, h1, h2⟩ := ok.mu n a _ ha e
        exact ⟨a, vs, rfl, .inl (SqL.of h1), h2⟩
      | ins C ns ys => cases h
      | nst C ns ys => cases h
      | dic ks ys => cases h
  | _ => cases h
/-- a[b] -/
theorem j_ix (ha : JE X g a da) (hb : JE X g b db) (hs : PlainIx b := by exact fun _ _ => rfl) : JE X g (.Subscript a b pos) (dBin fIx da db) := by
  refine ⟨fun pins s σ H Q I h => ?_⟩
  obtain ⟨l, st, rfl, ok, h⟩ := h
  refine Subscript_ (binT (R := fun x y H2 => ∃ l2 st2 p q, l2.H = H2 ∧ Sok X.K g l2 st2 σ ∧ RepG X.K g l2 p x ∧ RepG X.K g l2 q y ∧ Run X.K g (fIx p q st2) l2 σ Q) ha hb I ?_ fun v u s2 x y H2 I2 rx ry q => ?_)
  · refine ⟨l, st, rfl, ok, Run.mono (Run.bind h) fun u H1 ⟨l1, s1, p, e1, ok1, r1, st1, h1⟩ => ?_⟩
    refine ⟨l1, s1, e1, ok1, Run.mono (Run.bind h1) fun w H2 ⟨l2, s2, q, e2, ok2, r2, st2, h2⟩ => ?_⟩
    exact ⟨l2, s2, p, q, e2, ok2, st2.rep r1, r2, h2⟩
  · obtain ⟨l2, st2, p, q, rfl, ok2, rp, rq, h⟩ := q
    cases q with
    | int i =>
      cases (show y = .int i from rq)
      simp only [fIx] at h
      cases e : asL st2.mu p with
      | none => rw [e] at h; exact h.elim
      | some xs =>
        rw [e] at h
        obtain ⟨a, vs, rfl, hq, rv⟩ := rep_asL ok2 rp e
        cases e2 : atI xs i with
        | none => simp only [e2, optR] at h; exact h.elim
        | some v =>
          simp only [e2, optR] at h
          obtain ⟨w, hw, rw'⟩ := rv.at e2
          refine IxR.or ix_list ix_tup _ _ pins s2 σ l2.H (.ref a) (.int i) _ _ Q I2 rx ry ?_ (hs _ _)
          rcases hq with hq | hq
          · exact .inl ⟨a, vs, i, w, rfl, rfl, hq, hw, h l2 w (Step.refl l2) ok2 rw'⟩
          · exact .inr ⟨a, vs, i, w, rfl, rfl, hq, hw, h l2 w (Step.refl l2) ok2 rw'⟩
    | _ => exact h.elim
def LO (K : PySem.W.Frag) (g : Gx) (d : DO) : TO := fun σ H Q => ∃ l s, l.H = H ∧ Sok K g l s σ ∧ match d s with
  | .ok o s' => ∀ l', Step l l' → Sok K g l' s' σ → Q o l'.H
  | .exn e s' => ∀ l' cls dd, Step l l' → Sok K g l' s' σ → RepX K g l' e cls dd → g.W cls dd σ l'.H
  | .bad => False
abbrev JO (X : Cx) (g : Gx) (e : Option Expr) (d : DO) : Prop := PO X e (LO X.K g d)
theorem PO.cq {e : Option Expr} {t t' : TO} (h : PO X e t) (i : ∀ σ H Q, t' σ H Q → t σ H Q) : PO X e t' := ⟨fun pins s σ H Q I q => h.run pins s σ H Q I (i σ H Q q)⟩
theorem jo_none : JO X g none dNone := PO.cq po_none fun σ H Q q => by
  obtain ⟨l, s, rfl, ok, q⟩ := q
  exact q l (Step.refl l) ok
theorem jo_some (h : JE X g e de) : JO X g (some e) (dSome de) := PO.cq (po_some h) fun σ H Q q => by
  obtain ⟨l, s, rfl, ok, q⟩ := q
  refine ⟨l, s, rfl, ok, ?_⟩
  simp only [dSome] at q
  cases e1 : de s with
  | bad => rw [e1] at q; exact q
  | exn e t => rw [e1] at q; exact q
  | ok v t =>
    rw [e1] at q
    intro l1 u st1 ok1 r1
    cases v with
    | int i => exact ⟨i, r1, q l1 st1 ok1⟩
    | _ => exact q.elim
theorem o_slice {lo hi : Option Expr} {dl dh : DO} {p2 : Pos} (he : JE X g e de) (hl : JO X g lo dl) (hh : JO X g hi dh) : JE X g (.Subscript e (.Slice lo hi none p2) pos) (dSlice de dl dh) :=
  PE.cq (pe_slice (SlR.or sl_list sl_tupA) he hl hh) fun pins s σ H Q I q => by
    obtain ⟨l, s, rfl, ok, q⟩ := q
    refine ⟨l, s, rfl, ok, Run.mono (Run.bind q) fun u H1 ⟨l1, s1, p, e1, ok1, r1, st1, h1⟩ => ?_⟩
    refine ⟨l1, s1, e1, ok1, ?_⟩
    cases ea : dl s1 with
    | bad => rw [ea] at h1; exact h1
    | exn e t => rw [ea] at h1; exact h1
    | ok a t =>
      rw [ea] at h1
      intro l2 st2 ok2
      refine ⟨l2, t, rfl, ok2, ?_⟩
      have h1 : Run X.K g ((dh t).bind fun b s3 => fCut p a b s3) l1 σ Q := h1
      cases eb : dh t with
      | bad => rw [eb] at h1; exact h1
      | exn e t => rw [eb] at h1; exact fun l' c d s4 => h1 l' c d (st2.trans s4)
      | ok b t2 =>
        rw [eb] at h1
        intro l3 st3 ok3
        have r3 := st3.rep (st2.rep r1)
        have h3 := Run.step h1 (st2.trans st3)
        cases p with
        | lst xs =>
          obtain ⟨c, vs, rfl, _, hc, rc⟩ := r3
          exact .inl ⟨c, vs, rfl, SqL.of hc, Run.lst h3 ok3 (rc.cut a b)⟩
        | tup xs =>
          obtain ⟨c, vs, rfl, hc, rc⟩ := r3
          refine .inr ⟨c, vs, rfl, SqT.of2 hc, fun z => ?_, fun _ => Run.tup h3 ok3 (rc.cut a b)⟩
          have ec : cutP xs a b = xs := by
            unfold cutP
            rw [rc.length, z.1, z.2, List.drop_zero, Nat.sub_zero, ← rc.length, List.take_length]
          have h3 : Run X.K g (.ok (.tup (cutP xs a b)) t2) l3 σ Q := h3
          rw [ec] at h3
          exact h3 l3 _ (Step.refl l3) ok3 ⟨c, vs, rfl, hc, rc⟩
        | _ => exact h3.elim
theorem c_len : CJ X g (fun us => call (.builtin "len") us) fLen := CJ.of call_len fun l st σ ps xs Q ok rp run => by
  unfold fLen at run
  split at run
  · obtain ⟨v, r, rfl, h1, h2⟩ := rp
    cases (show r = [] from h2)
    split at run
    · rename_i z
      exact ⟨v, _, rfl, by rw [show v = .str _ from h1]; exact ⟨by rw [line_eq]; exact z, rfl⟩, run l _ (Step.refl l) ok rfl⟩
    · exact run.elim
  · obtain ⟨v, r, rfl, h1, h2⟩ := rp
    cases (show r = [] from h2)
    rename_i p hp
    cases e : asL st.mu p with
    | none => rw [e] at run; exact run.elim
    | some ys =>
      rw [e] at run
      obtain ⟨a, vs, rfl, hq, rv⟩ := rep_asL ok h1 e
      refine ⟨.ref a, ys.length, rfl, ?_, run l _ (Step.refl l) ok rfl⟩
      rcases hq with hq | hq
      · exact .inl ⟨vs, hq, rv.length⟩
      · exact .inr ⟨vs, hq, rv.length⟩
  · exact run.elim
theorem c_abs : CJ X g (fun us => call (.builtin "abs") us) fAbsI := CJ.of call_abs fun l st σ ps xs Q ok rp run => by
  unfold fAbsI at run
  split at run
  · obtain ⟨v, r, rfl, h1, h2⟩ := rp
    cases (show r = [] from h2)
    rename_i i
    refine ⟨i, by rw [show v = .int i from h1], run l _ (Step.refl l) ok ?_⟩
    show V.int _ = V.int _
    congr 1
    omega
  · exact run.elim
theorem c_min2 (hc : X.calm = true) : CJ X g (fun us => call (.builtin "min") us) fMin2 := CJ.of (call_min2 hc) fun l st σ ps xs Q ok rp run => by
  unfold fMin2 at run
  split at run
  · obtain ⟨v, r, rfl, h1, w, r2, rfl, h2, h3⟩ := rp
    cases (show r2 = [] from h3)
    rename_i i j
    refine ⟨i, j, by rw [show v = .int i from h1, show w = .int j from h2], run l _ (Step.refl l) ok ?_⟩
    show V.int _ = V.int _
    congr 1
    omega
  · exact run.elim
theorem c_tuple : CJ X g (fun us => call (.type "tuple") us) fTuple := CJ.of call_tuple_of fun l st σ ps xs Q ok rp run => by
  unfold fTuple at run
  split at run
  · obtain ⟨v, r, rfl, h1, h2⟩ := rp
    cases (show r = [] from h2)
    rename_i p
    cases p with
    | lst ys =>
      obtain ⟨a, vs, rfl, _, ha, ra⟩ := h1
      exact ⟨a, vs, rfl, .inl ⟨SqL.of ha, Run.tup run ok ra⟩⟩
    | frz ys =>
      obtain ⟨a, vs, rfl, ha, ra⟩ := h1
      exact ⟨a, vs, rfl, .inl ⟨SqL.of2 ha, Run.tup run ok ra⟩⟩
    | tup ys =>
      obtain ⟨a, vs, rfl, ha, ra⟩ := h1
      exact ⟨a, vs, rfl, .inr ⟨SqT.of2 ha, run l _ (Step.refl l) ok ⟨a, vs, rfl, ha, ra⟩⟩⟩
    | ptr n =>
      obtain ⟨a, ha, rfl⟩ := h1
      simp only [asL] at run
      cases e : st.mu[n]? with
      | none => rw [e] at run; exact run.elim
      | some m =>
        rw [e] at run
        cases m with
        | lst ys =>
          obtain ⟨vs, q1, q2⟩ := ok.mu n a _ ha e
          exact ⟨a, vs, rfl, .inl ⟨SqL.of q1, Run.tup run ok q2⟩⟩
        | ins C ns ys => exact run.elim
        | nst C ns ys => exact run.elim
        | dic ks ys => exact run.elim
    | _ => exact run.elim
  · exact run.elim
end
end L3
namespace L3
open PySem PySem.Spec PyProof.Rows L2
@[simp] def dSkip : DS := fun s => .ok .nx s
@[simp] def dSeq (a b : DS) : DS := fun s => (a s).bind fun f s1 => match f with
  | .nx => b s1
  | .rt v => .ok (.rt v) s1
  | .bk => .ok .bk s1
  | .ct => .ok .ct s1
@[simp] def setE (i : Nat) (v : PV) (s : S) : S := ⟨s.env.set i (some (.val v)), s.mu⟩
@[simp] def dSet (i : Nat) (d : DE) : DS := fun s => (d s).bind fun v s1 => .ok .nx (setE i v s1)
@[simp] def dExpr (d : DE) : DS := fun s => (d s).bind fun _ s1 => .ok .nx s1
@[simp] def dRet (d : DE) : DS := fun s => (d s).bind fun v s1 => .ok (.rt v) s1
@[simp] def dRetN : DS := fun s => .ok (.rt .non) s
@[simp] def dBrk : DS := fun s => .ok .bk s
@[simp] def dCont : DS := fun s => .ok .ct s
@[simp] def dIfS (c : DT) (a b : DS) : DS := fun s => (c s).bind fun x s1 => match x with
  | true => a s1
  | false => b s1
@[simp] def dNever : DS := fun _ => .bad
abbrev DG := PV → S → R S Unit
@[simp] def gN (i : Nat) : DG := fun v s => .ok () (setE i v s)
abbrev DGs := List PV → S → R S Unit
@[simp] def gNil : DGs := fun vs s => match vs with
  | [] => .ok () s
  | _ => .bad
@[simp] def gCons (t : DG) (u : DGs) : DGs := fun vs s => match vs with
  | [] => .bad
  | v :: r => (t v s).bind fun _ s1 => u r s1
@[simp] def gT (n : Nat) (t : DGs) : DG := fun v s => match v with
  | .tup xs => if xs.length = n then t xs s else .bad
  | _ => .bad
/-- a target is stored or the run is given up -/
@[simp] def tgt {b : Type} (r : R S Unit) (k : S → R S b) : R S b := match r with
  | .ok _ s => k s
  | _ => .bad
@[simp] def dAsg (d : DE) (t : DG) : DS := fun s => (d s).bind fun v s1 => tgt (t v s1) fun s2 => .ok .nx s2
def forL (t : DG) (b : DS) : List PV → S → R S Fl
  | [], s => .ok .nx s
  | x :: xs, s => tgt (t x s) fun s1 => (b s1).bind fun f s2 => match f with
    | .nx => forL t b xs s2
    | .ct => forL t b xs s2
    | .bk => .ok .nx s2
    | .rt v => .ok (.rt v) s2
abbrev DI := S → R S (List PV)
@[simp] def dFor (di : DI) (t : DG) (b : DS) : DS := fun s => (di s).bind fun xs s1 => forL t b xs s1
def whileL (c : DT) (b : DS) : Nat → S → R S Fl
  | 0, _ => .bad
  | n + 1, s => (c s).bind fun k s1 => match k with
    | false => .ok .nx s1
    | true => (b s1).bind fun f s2 => match f with
      | .nx => whileL c b n s2
      | .ct => whileL c b n s2
      | .bk => .ok .nx s2
      | .rt v => .ok (.rt v) s2
@[simp] def dWhile (fuel : S → Nat) (c : DT) (b : DS) : DS := fun s => whileL c b (fuel s) s
section
variable {K : PySem.W.Frag} {g : Gx} {l : Lc} {s : S} {σ : St} {p : PV} {v : V} {i : Nat}
theorem get_set {α : Type} {xs : List (Option α)} {i j : Nat} {a b : α} (h : (xs.set i (some a))[j]? = some (some b)) : (j = i ∧ a = b ∧ i < xs.length) ∨ (j ≠ i ∧ xs[j]? = some (some b)) := by
  by_cases e : j = i
  · subst e
    by_cases hl : j < xs.length
    · rw [List.getElem?_set_self hl] at h
      cases h
      exact .inl ⟨rfl, rfl, hl⟩
    · rw [List.getElem?_eq_none (by rw [List.length_set]; omega)] at h
      cases h
  · rw [List.getElem?_set_ne (Ne.symm e)] at h
    exact .inr ⟨e, h⟩
theorem Sok.set (ok : Sok K g l s σ) (r : RepG K g l p v) : Sok K g l (setE i p s) (σ.set i (some v)) where
  len := by show (s.env.set i _).length = _; rw [List.length_set, List.length_set]; exact ok.len
  env := fun j w h => by
    rcases get_set h with ⟨e, e2, hl⟩ | ⟨e, h⟩
    · cases e2
      subst e
      exact ⟨v, by rw [List.getElem?_set_self (by rw [← ok.len]; exact hl)], r⟩
    · obtain ⟨u, h1, h2⟩ := ok.env j w h
      exact ⟨u, by rw [List.getElem?_set_ne (Ne.symm e)]; exact h1, h2⟩
  own := fun j xs h => by
    rcases get_set h with ⟨e, e2, hl⟩ | ⟨e, h⟩
    · cases e2
    · obtain ⟨a, vs, h1, h2⟩ := ok.own j xs h
      exact ⟨a, vs, by rw [List.getElem?_set_ne (Ne.symm e)]; exact h1, h2⟩
  dis := fun j k xs ys a hne h1 h2 h3 h4 => by
    rcases get_set h1 with ⟨_, e2, _⟩ | ⟨e1, h1⟩
    · cases e2
    · rcases get_set h2 with ⟨_, e2, _⟩ | ⟨e2, h2⟩
      · cases e2
      · rw [List.getElem?_set_ne (Ne.symm e1)] at h3
        rw [List.getElem?_set_ne (Ne.symm e2)] at h4
        exact ok.dis j k xs ys a hne h1 h2 h3 h4
  mlen := ok.mlen
  mu := ok.mu
  nd := ok.nd
  alM := ok.alM
  there := ok.there
  mn := ok.mn
  tabs := ok.tabs
end
def LI (K : PySem.W.Frag) (g : Gx) (d : DI) (ItOk : Lc → It → List PV → Prop) : TI := fun σ H Rq => ∃ l s, l.H = H ∧ Sok K g l s σ ∧ match d s with
  | .ok xs s' => ∀ l' J, Step l l' → Sok K g l' s' σ → ItOk l' J xs → Rq J l'.H
  | .exn e s' => ∀ l' cls dd, Step l l' → Sok K g l' s' σ → RepX K g l' e cls dd → g.W cls dd σ l'.H
  | .bad => False
/-- an iterator that yields these -/
def ItOk (K : PySem.W.Frag) (g : Gx) (l0 : Lc) (J : It) (xs : List PV) : Prop := ∀ (i : Nat) (g' : Gx) (l : Lc), Step l0 l → g'.CR = g.CR → (∀ a, g'.N a → g.N a ∨ l0.H a = none) → (∀ a, g'.L l a → l.H a ≠ none) →
  (∀ x, xs[i]? = some x → J.go i l.H ∧ ∀ u H', J.yld i l.H u H' → (∀ a o, l.H a = some o → H' a = some o) ∧ (∀ l1 : Lc, l1.al = l.al → l1.M = l.M → l1.H = H' → RepG K g' l1 x u)) ∧ (xs.length ≤ i → J.stop i l.H)
theorem Step.rep2 {K : PySem.W.Frag} {g g' : Gx} {l l' : Lc} (st : Step l l') (ec : g'.CR = g.CR) (hN : ∀ a, g'.N a → g.N a ∨ l.H a = none) {x : PV} {v : V} (h : RepG K g l x v) : RepG K g' l' x v := by
  have q : Rep K g.CR l'.al (g'.L l') l'.H x v := Rep.mono st.al (fun a o n e => ⟨st.keep a o (fun z => n (.inl z)) e, fun z => by
    rcases z with z | z
    · rcases st.new a z with z | z
      · exact n (.inl z)
      · rw [e] at z; cases z
    · rcases hN a z with z | z
      · exact n (.inr z)
      · rw [e] at z; cases z⟩) x v h
  rw [← ec] at q
  exact q
abbrev JI (X : Cx) (g : Gx) (tg iter : Expr) (d : DI) : Prop := PI X tg iter (LI X.K g d (ItOk X.K g))
def LG (K : PySem.W.Frag) (g : Gx) (js : List Nat) (d : DG) : TG := fun v σ H Q => ∃ l s p, l.H = H ∧ Sok K g l s σ ∧ RepG K g l p v ∧ match d p s with
  | .ok _ s' => ∀ l' σ', Step l l' → Sok K g l' s' σ' → (∀ vs : List Nat, (∀ i ∈ js, i ∈ vs) → wipe σ' vs = wipe σ vs) → Q σ' l'.H
  | .exn _ _ => False
  | .bad => False
def LGs (K : PySem.W.Frag) (g : Gx) (js : List Nat) (d : DGs) : TGs := fun vs σ H Q => ∃ l s ps, l.H = H ∧ Sok K g l s σ ∧ RepGL K g l ps vs ∧ match d ps s with
  | .ok _ s' => ∀ l' σ', Step l l' → Sok K g l' s' σ' → (∀ vs : List Nat, (∀ i ∈ js, i ∈ vs) → wipe σ' vs = wipe σ vs) → Q σ' l'.H
  | .exn _ _ => False
  | .bad => False
abbrev JG (X : Cx) (g : Gx) (js : List Nat) (tg : Expr) (d : DG) : Prop := PG X tg (LG X.K g js d)
abbrev JGs (X : Cx) (g : Gx) (js : List Nat) (tg : List Expr) (d : DGs) : Prop := PGs X tg (LGs X.K g js d)
theorem wipe_set {σ : St} {i : Nat} {x : Option V} : ∀ {vs : List Nat}, i ∈ vs → wipe (σ.set i x) vs = wipe σ vs
  | v :: vs, h => by
    unfold wipe
    by_cases e : i ∈ vs
    · rw [wipe_set e]
    · have ev : i = v := by
        rcases List.mem_cons.mp h with h | h
        · exact h
        · exact absurd h e
      subst ev
      have gen : ∀ (ws : List Nat), i ∉ ws → wipe (σ.set i x) ws = (wipe σ ws).set i x := by
        intro ws
        induction ws with
        | nil => intro _; rfl
        | cons w ws ih =>
          intro hw
          unfold wipe
          rw [ih fun z => hw (List.mem_cons_of_mem _ z)]
          exact List.set_comm _ _ (fun z => hw (by rw [z]; exact List.mem_cons_self))
      rw [gen vs e, List.set_set]
section
variable {X : Cx} {g : Gx} {a b c e tg iter : Expr} {es : List Expr} {st : Stmt} {rest : List Stmt} {da db dc de : DE} {ds du : DS} {dt : DT} {dr : DA} {pos : Pos}
theorem PG.cq {t t' : TG} (h : PG X e t) (i : ∀ v σ H Q, t' v σ H Q → t v σ H Q) : PG X e t' := ⟨fun pins s σ H v u Q I r q => h.run pins s σ H v u Q I r (i v σ H Q q)⟩
theorem PGs.cq {t t' : TGs} (h : PGs X es t) (i : ∀ v σ H Q, t' v σ H Q → t v σ H Q) : PGs X es t' := ⟨fun pins s σ H v u Q I r q => h.run pins s σ H v u Q I r (i v σ H Q q)⟩
theorem PI.cq {t t' : TI} (h : PI X tg iter t) (i : ∀ pins s σ H Q, Inv X pins σ H s → t' σ H Q → t σ H Q) : PI X tg iter t' := ⟨fun pins s σ H Q I q => h.run pins s σ H Q I (i pins s σ H Q I q)⟩
theorem js_nil : JSs X g [] dSkip := PSs.cq pss_nil fun D σ H q => by
  obtain ⟨l, s, rfl, ok, q⟩ := q
  exact q l σ (Step.refl l) ok
theorem js_cons (h1 : JS X g st ds) (h2 : JSs X g rest du) : JSs X g (st :: rest) (dSeq ds du) := PSs.cq (pss_cons h1 h2) fun D σ H q => by
  obtain ⟨l, s, rfl, ok, q⟩ := q
  refine ⟨l, s, rfl, ok, ?_⟩
  simp only [dSeq] at q
  cases e : ds s with
  | bad => rw [e] at q; exact q
  | exn e t => rw [e] at q; exact q
  | ok f t =>
    rw [e] at q
    cases f with
    | nx => exact fun l1 σ1 s1 ok1 => ⟨l1, t, rfl, ok1, RunS.step (r := du t) (σ := σ) q s1⟩
    | bk => exact q
    | ct => exact q
    | rt v => exact q
theorem js_one (h1 : JS X g st ds) : JSs X g [st] ds := pss_one h1
theorem js_never : JS X g st dNever := PS.cq ps_never fun pins s D σ H I q => by
  obtain ⟨l, s, rfl, ok, q⟩ := q
  exact q
theorem js_set {i : Nat} {x : Str} {pos' : Pos} (hN : X.N.Nodup) (he : JE X g e de) (hi : X.N[i]? = some x := by rfl) (hx : Loc X.env.scope x := by first | exact Or.inl rfl | exact Or.inr rfl) (hs : swapsWith e (some (.Name x pos')) pos.line X.env = pure false := by rfl)
    (hf : X.fn x = true ∨ X.env.scope.names.lookup x = some .local := by first | exact .inl rfl | exact .inr rfl) : JS X g (.Assign [.Name x pos'] e pos) (dSet i de) := PS.cq (ps_set hN hi hx he hs hf) fun pins s D σ H I q => by
  obtain ⟨l, s, rfl, ok, q⟩ := q
  refine ⟨l, s, rfl, ok, Run.mono (Run.bindS q) fun u H1 ⟨l1, s1, p, e1, ok1, r1, st1, h1⟩ => ?_⟩
  subst e1
  exact h1 l1 _ (Step.refl l1) (ok1.set r1)
theorem js_expr (he : JE X g e de) (hs : swapsWith e none pos.line X.env = pure false := by rfl) : JS X g (.Expr e pos) (dExpr de) := PS.cq (ps_expr he hs) fun pins s D σ H I q => by
  obtain ⟨l, s, rfl, ok, q⟩ := q
  refine ⟨l, s, rfl, ok, Run.mono (Run.bindS q) fun u H1 ⟨l1, s1, p, e1, ok1, r1, st1, h1⟩ => ?_⟩
  subst e1
  exact h1 l1 _ (Step.refl l1) ok1
theorem js_ret (he : JE X g e de) : JS X g (.Return (some e) pos) (dRet de) := PS.cq (ps_ret he) fun pins s D σ H I q => by
  obtain ⟨l, s, rfl, ok, q⟩ := q
  refine ⟨l, s, rfl, ok, Run.mono (Run.bindS q) fun u H1 ⟨l1, s1, p, e1, ok1, r1, st1, h1⟩ => ?_⟩
  subst e1
  exact h1 l1 σ u (Step.refl l1) ok1 r1
theorem js_if {A B : List Stmt} (hc : JT X g c dt) (ha : JSs X g A ds) (hb : JSs X g B du) : JS X g (.If c A B pos) (dIfS dt ds du) := PS.cq (ps_if hc ha hb) fun pins s D σ H I q => by
  obtain ⟨l, s, rfl, ok, q⟩ := q
  refine ⟨l, s, rfl, ok, RunT.mono (RunT.bindS q) fun u H1 ⟨l1, s1, e1, ok1, st1, h1⟩ => ?_⟩
  subst e1
  cases u with
  | true => exact ⟨l1, s1, rfl, ok1, h1⟩
  | false => exact ⟨l1, s1, rfl, ok1, h1⟩
theorem jg_name {x : Str} (i : Nat) (hN : X.N.Nodup) (hi : X.N[i]? = some x := by rfl) (hx : Loc X.env.scope x := by first | exact Or.inl rfl | exact Or.inr rfl) (hf : X.fn x = true ∨ X.env.scope.names.lookup x = some .local := by first | exact .inl rfl | exact .inr rfl) : JG X g [i] (.Name x pos) (gN i) :=
  PG.cq (pg_name hN hi hx hf) fun v σ H Q q => by
    obtain ⟨l, s, p, rfl, ok, r, q⟩ := q
    exact q l _ (Step.refl l) (ok.set r) fun vs hv => wipe_set (hv i List.mem_cons_self)
theorem jgs_nil : JGs X g [] [] gNil := PGs.cq pgs_nil fun v σ H Q q => by
  obtain ⟨l, s, ps, rfl, ok, r, q⟩ := q
  cases ps with
  | nil => exact ⟨r, q l σ (Step.refl l) ok fun _ _ => rfl⟩
  | cons => exact q.elim
theorem jgs_cons {t : DG} {u : DGs} {i1 i2 : List Nat} (h1 : JG X g i1 e t) (h2 : JGs X g i2 es u) (hs : (assignEach (e :: es) X.env).map (·.2) = assign e X.env :: (assignEach es X.env).map (·.2) := by rfl) : JGs X g (i1 ++ i2) (e :: es) (gCons t u) :=
  PGs.cq (pgs_cons h1 h2 hs) fun vs σ H Q q => by
    obtain ⟨l, s, ps, rfl, ok, r, q⟩ := q
    cases ps with
    | nil => exact q.elim
    | cons p ps =>
      obtain ⟨v, w, rfl, r1, r2⟩ := r
      refine ⟨v, w, rfl, l, s, p, rfl, ok, r1, ?_⟩
      simp only [gCons] at q
      cases e : t p s with
      | bad => rw [e] at q; exact q.elim
      | exn e t => rw [e] at q; exact q.elim
      | ok f s1 =>
        rw [e] at q
        intro l1 σ1 st1 ok1 w1
        refine ⟨l1, s1, ps, rfl, ok1, st1.reps r2, ?_⟩
        simp only [R.bind] at q
        cases e2 : u ps s1 with
        | bad => rw [e2] at q; exact q.elim
        | exn e t => rw [e2] at q; exact q.elim
        | ok f s2 =>
          rw [e2] at q
          exact fun l2 σ2 st2 ok2 w2 => q l2 σ2 (st1.trans st2) ok2 fun vs hv => (w2 vs fun i hi => hv i (List.mem_append_right _ hi)).trans (w1 vs fun i hi => hv i (List.mem_append_left _ hi))
theorem jg_tup {t : DGs} {k n : Nat} {js : List Nat} (hc : X.calm = true) (h : JGs X g js es t) (hn : (assignEach es X.env).length = n := by rfl) (hst : (assignEach es X.env).findIdx? (·.1) = none := by rfl) : JG X g js (.Tuple es k pos) (gT n t) :=
  PG.cq (pg_tup hc h hn hst) fun v σ H Q q => by
    obtain ⟨l, s, p, rfl, ok, r, q⟩ := q
    cases p with
    | tup xs =>
      obtain ⟨a, vs, rfl, ha, ra⟩ := r
      simp only [gT] at q
      by_cases z : xs.length = n
      · rw [if_pos z] at q
        exact ⟨a, vs, rfl, SqT.of2 ha, by rw [← ra.length]; exact z, l, s, xs, rfl, ok, ra, q⟩
      · rw [if_neg z] at q
        exact q.elim
    | _ => exact q.elim
theorem js_asg {t : DG} {js : List Nat} (he : JE X g e de) (hg : JG X g js tg t) (hs : swapsWithSole [tg] e pos.line X.env = pure false := by rfl) (hw : swappedStores [tg] e X.env = pure none := by rfl)
    (h1 : (assignEach [tg] X.env).map (·.2) = [assign tg X.env] := by rfl) : JS X g (.Assign [tg] e pos) (dAsg de t) := PS.cq (ps_asg he hg hs hw h1) fun pins s D σ H I q => by
  obtain ⟨l, s, rfl, ok, q⟩ := q
  refine ⟨l, s, rfl, ok, Run.mono (Run.bindS q) fun u H1 ⟨l1, s1, p, e1, ok1, r1, st1, h1⟩ => ?_⟩
  refine ⟨l1, s1, p, e1, ok1, r1, ?_⟩
  cases e : t p s1 with
  | bad => rw [e] at h1; exact h1
  | exn e t => rw [e] at h1; exact h1.elim
  | ok f s2 => rw [e] at h1; exact fun l2 σ2 st2 ok2 _ => h1 l2 σ2 st2 ok2
theorem js_while {body : List Stmt} {fuel : S → Nat} (hp : PassesOwn (model X.prog X.w) X.A X.env X.xe) (hc : JT X g c dt) (hb : JSs X g body ds) : JS X g (.While c body [] pos) (dWhile fuel dt ds) := PS.cq (ps_while hp hc hb) fun pins s D σ H I q => by
  obtain ⟨l, s, rfl, ok, q⟩ := q
  refine ⟨fun m σ' H' => ∃ l' s', l'.H = H' ∧ Sok X.K g l' s' σ' ∧ RunS X.K g (whileL dt ds m s') l' D σ', ⟨fuel s, l, s, rfl, ok, q⟩, ?_⟩
  rintro m σ1 H1 ⟨l1, s1, rfl, ok1, q1⟩
  cases m with
  | zero => exact q1.elim
  | succ m =>
    refine ⟨l1, s1, rfl, ok1, RunT.mono (RunT.bindS (k := fun k s1 => match k with
      | false => .ok .nx s1
      | true => (ds s1).bind fun f s2 => match f with
        | .nx => whileL dt ds m s2
        | .ct => whileL dt ds m s2
        | .bk => .ok .nx s2
        | .rt v => .ok (.rt v) s2) q1) fun u H2 ⟨l2, s2, e2, ok2, st2, h2⟩ => ?_⟩
    subst e2
    cases u with
    | false => exact h2 l2 σ1 (Step.refl l2) ok2
    | true =>
      refine (if_pos rfl).mpr ⟨fun σ' H' => ∃ l' s', l'.H = H' ∧ Sok X.K g l' s' σ' ∧ RunS X.K g (whileL dt ds m s') l' D σ', fun σ' H' z => ⟨m, Nat.lt_succ_self m, z⟩, l2, s2, rfl, ok2, ?_⟩
      simp only at h2
      cases e : ds s2 with
      | bad => rw [e] at h2; exact h2
      | exn e t => rw [e] at h2; exact h2
      | ok f t =>
        rw [e] at h2
        cases f with
        | nx => exact fun l' σ' st' ok' => ⟨l', t, rfl, ok', RunS.step (r := whileL dt ds m t) (σ := σ1) h2 st'⟩
        | ct => exact fun l' σ' st' ok' => ⟨l', t, rfl, ok', RunS.step (r := whileL dt ds m t) (σ := σ1) h2 st'⟩
        | bk => exact h2
        | rt v => exact h2
theorem RunS.nxc {r : R S Fl} {k : S → R S Fl} {D : Ends} {l : Lc} {σ : St} {K : PySem.W.Frag} {N : St → Hp → Prop}
    (h : RunS K g (r.bind fun f s2 => match f with
        | .nx => k s2
        | .ct => k s2
        | .bk => .ok .nx s2
        | .rt v => .ok (.rt v) s2) l D σ) (hN : ∀ t l' σ', Step l l' → Sok K g l' t σ' → RunS K g (k t) l' D σ' → N σ' l'.H) : RunS K g r l { D with nx := N, ct := N, bk := D.nx } σ := by
  cases r with
  | bad => exact h
  | exn e t => exact h
  | ok f t =>
    cases f with
    | nx => exact fun l' σ' st' ok' => hN t l' σ' st' ok' (RunS.step (r := k t) (σ := σ) h st')
    | ct => exact fun l' σ' st' ok' => hN t l' σ' st' ok' (RunS.step (r := k t) (σ := σ) h st')
    | bk => exact h
    | rt v => exact h
theorem js_for {body : List Stmt} {di : DI} {t : DG} {js : List Nat} (hp : PassesOwn (model X.prog X.w) X.A X.env X.xe) (hc : X.calm = true) (hi : JI X g tg iter di) (hg : JG X g js tg t) (hb : JSs X g body ds)
    (hs : ∀ x, foldedSetIterable iter X.env x = pure x := by intro _; rfl) : JS X g (.For tg iter body [] pos) (dFor di t ds) := PS.cq (ps_for hp hc hi hg hb hs) fun pins s D σ H I q => by
  obtain ⟨l, s, rfl, ok, q⟩ := q
  refine ⟨l, s, rfl, ok, ?_⟩
  simp only [dFor] at q
  cases e : di s with
  | bad => rw [e] at q; exact q
  | exn e t => rw [e] at q; exact fun l' c d => q l' σ c d
  | ok xs s1 =>
    rw [e] at q
    intro l0 J st0 ok0 it
    have q0 := RunS.step (r := forL t ds xs s1) (σ := σ) q st0
    refine ⟨fun i m σ' H' => m = xs.length - i ∧ i ≤ xs.length ∧ ∃ l' s', l'.H = H' ∧ Step l0 l' ∧ Sok X.K g l' s' σ' ∧ RunS X.K g (forL t ds (xs.drop i) s') l' D σ', ⟨xs.length, by simp, Nat.zero_le _, l0, s1, rfl, Step.refl l0, ok0, q0⟩, ?_⟩
    rintro i m σ1 H1 ⟨rfl, hi', l1, s2, rfl, st1, ok1, q1⟩
    obtain ⟨i1, i2⟩ := it i g l1 st1 rfl (fun _ h => .inl h) ok1.there
    by_cases hlt : i < xs.length
    · obtain ⟨g1, g2⟩ := i1 xs[i] (by simp [hlt])
      refine .inr ⟨g1, fun σ' H' => ∃ l' s', l'.H = H' ∧ Step l0 l' ∧ Sok X.K g l' s' σ' ∧ RunS X.K g (forL t ds (xs.drop (i + 1)) s') l' D σ', fun σ' H' z => ⟨xs.length - (i + 1), by omega, rfl, hlt, z⟩, fun x H' y => ?_⟩
      obtain ⟨k1, k2⟩ := g2 x H' y
      rw [List.drop_eq_getElem_cons hlt] at q1
      have ok2 : Sok X.K g ⟨l1.al, l1.M, H'⟩ s2 σ1 := ok1.grow rfl rfl k1
      have st2 : Step l1 ⟨l1.al, l1.M, H'⟩ := ⟨⟨[], by simp⟩, fun _ h => .inl h, fun a o _ h => k1 a o h, fun a h => by
        cases q : l1.H a with
        | none => exact absurd q h
        | some o => show H' a ≠ none; rw [k1 a o q]; simp⟩
      refine ⟨⟨l1.al, l1.M, H'⟩, s2, xs[i], rfl, ok2, k2 _ rfl rfl rfl, ?_⟩
      have q2 := RunS.step (r := forL t ds (xs[i] :: xs.drop (i + 1)) s2) (σ := σ1) q1 st2
      unfold forL at q2
      cases et : t xs[i] s2 with
      | bad => rw [et] at q2; exact q2.elim
      | exn e t => rw [et] at q2; exact q2.elim
      | ok f s3 =>
        rw [et] at q2
        intro l3 σ3 st3 ok3 _
        refine ⟨l3, s3, rfl, ok3, ?_⟩
        exact RunS.nxc (k := fun s2 => forL t ds (xs.drop (i + 1)) s2) (RunS.step (σ := σ1) q2 st3) fun t' l' σ' st' ok' h' => ⟨l', t', rfl, (st1.trans st2).trans (st3.trans st'), ok', h'⟩
    · have ei : i = xs.length := by omega
      refine .inl ⟨i2 (by omega), ?_⟩
      rw [ei, List.drop_length] at q1
      exact q1 l1 σ1 (Step.refl l1) ok1
end
end L3
namespace L3
open PySem PySem.Spec PyProof.Rows L2
@[simp] def iSeq (d : DE) : DI := fun s => (d s).bind fun v s1 => match v with
  | .lst xs => .ok xs s1
  | .tup xs => .ok xs s1
  | .frz xs => .ok xs s1
  | _ => .bad
def rangeP (lo : Int) (n : Nat) : List PV := (List.range n).map fun (k : Nat) => .int (lo + (k : Int))
@[simp] def iRange1 (d : DA) : DI := fun s => (d s).bind fun vs s1 => match vs with
  | [.int j] => if -(2 ^ 62) ≤ j ∧ j < 2 ^ 62 then .ok (rangeP 0 j.toNat) s1 else .bad
  | _ => .bad
@[simp] def iRange2 (d : DA) : DI := fun s => (d s).bind fun vs s1 => match vs with
  | [.int i, .int j] => if -(2 ^ 62) ≤ i ∧ i < 2 ^ 62 ∧ -(2 ^ 62) ≤ j ∧ j < 2 ^ 62 then .ok (rangeP i (j - i).toNat) s1 else .bad
  | _ => .bad
def enumP (xs : List PV) : List PV := (List.range xs.length).map fun (k : Nat) => .tup [.int (k : Int), xs.getD k .non]
@[simp] def iEnum (d : DA) : DI := fun s => (d s).bind fun vs s1 => match vs with
  | [.lst xs] => .ok (enumP xs) s1
  | _ => .bad
def zipP (xs ys : List PV) : List PV := (xs.zip ys).map fun p => .tup [p.1, p.2]
@[simp] def iZip (d : DA) : DI := fun s => (d s).bind fun vs s1 => match vs with
  | [.lst xs, .lst ys] => .ok (zipP xs ys) s1
  | [.tup xs, .tup ys] => .ok (zipP xs ys) s1
  | _ => .bad
theorem enumP_get {xs : List PV} {i : Nat} {x : PV} (h : (enumP xs)[i]? = some x) : ∃ y, xs[i]? = some y ∧ x = .tup [.int (i : Int), y] := by
  unfold enumP at h
  rw [List.getElem?_map] at h
  cases e : (List.range xs.length)[i]? with
  | none => rw [e] at h; cases h
  | some k =>
    rw [e] at h
    obtain ⟨hl, ek⟩ := List.getElem?_eq_some_iff.mp e
    rw [List.getElem_range] at ek
    subst ek
    rw [List.length_range] at hl
    cases h
    exact ⟨xs[i], by simp [hl], by simp [List.getD, hl]⟩
section
variable {X : Cx} {g : Gx} {a b c e tg iter : Expr} {es : List Expr} {da db dc de : DE} {dr : DA} {pos : Pos}
theorem pi_seq {l : Expr} {tl : TE} (hl : PE X l tl) : PI X tg l (fun σ H Rq => tl σ H fun x H1 => ∃ a, x = .ref a ∧ ((∃ xs, SqL X.K H1 a xs) ∧ Rq (Itl X.K a) H1 ∨ (∃ xs, SqT X.K H1 a xs) ∧ Rq (Itt X.K a) H1)) := by
  refine ⟨fun pins s σ H R I h => ?_⟩
  refine thn (hl.run pins s σ H _ I h) fun v s1 ⟨x, H1, I1, r1, q1⟩ => ?_
  obtain ⟨a, e, ⟨⟨xs, hq⟩, q⟩ | ⟨⟨xs, hq⟩, q⟩⟩ := q1
  · subst e
    cases r1
    obtain ⟨its, rv, p, hz⟩ := I1.list hq
    refine wpAny_pyIter_list p.isList ?_
    refine ⟨s1.heap.objs.size, [s1.heap.objs.size], _, _, H1, rfl, I1.kept (t' := s1.toks) fun b o e => Heap.get?_push_of_some _ e, turn_list a _, ⟨_, Heap.get?_push_size _ rfl, rfl, rfl⟩, fun b hb => ?_, q⟩
    have e : b = s1.heap.objs.size := by simpa using hb
    subst e
    exact I1.fpOk (Nat.le_refl _) (I1.hok.fresh (Nat.le_refl _))
  · subst e
    cases r1
    obtain ⟨its, rv, p, hz⟩ := I1.tuple hq
    refine wpAny_pyIter_tuple (show s1.heap.IsTuple a its.toArray from p) ?_
    refine ⟨s1.heap.objs.size, [s1.heap.objs.size], _, _, H1, rfl, I1.kept (t' := s1.toks) fun b o e => Heap.get?_push_of_some _ e, turn_tuple a _, ⟨_, Heap.get?_push_size _ rfl, rfl, rfl⟩, fun b hb => ?_, q⟩
    have e : b = s1.heap.objs.size := by simpa using hb
    subst e
    exact I1.fpOk (Nat.le_refl _) (I1.hok.fresh (Nat.le_refl _))
theorem rep_here {K : PySem.W.Frag} {l l1 : Lc} {p : PV} {u : V} (ea : l1.al = l.al) (eM : l1.M = l.M) (k : ∀ a o, l.H a = some o → l1.H a = some o) (r : RepG K g l p u) : RepG K g l1 p u := by
  have st : Step l l1 := ⟨⟨[], by simp [ea]⟩, fun a h => .inl (by rw [← eM]; exact h), fun a o _ h => k a o h, fun a h => by
    cases q : l.H a with
    | none => exact absurd q h
    | some o => rw [k a o q]; simp⟩
  exact st.rep r
theorem it_list {K : PySem.W.Frag} {l0 : Lc} {a : Addr} {vs : List V} {xs : List PV} (hn : ∀ l, Step l0 l → SqL K l.H a vs) (rv : RepGL K g l0 xs vs) : ItOk K g l0 (Itl K a) xs := fun i g' l st ec hN th => by
  have h1 := hn l st
  refine ⟨fun x hx => ?_, fun hx => ⟨vs, h1, by rw [← rv.length]; exact hx⟩⟩
  obtain ⟨v, hv, r⟩ := rv.get hx
  refine ⟨⟨vs, v, h1, hv⟩, fun u H' y => ?_⟩
  obtain ⟨e, y⟩ := y
  subst e
  have eu : u = v := by have := y vs h1; rw [hv] at this; exact (Option.some.inj this).symm
  subst eu
  exact ⟨fun _ _ h => h, fun l1 ea eM eH => rep_here ea eM (fun a o h => by rw [eH]; exact h) (st.rep2 ec hN r)⟩
theorem it_tup {K : PySem.W.Frag} {l0 : Lc} {a : Addr} {vs : List V} {xs : List PV} (hn : ∀ l, Step l0 l → SqT K l.H a vs) (rv : RepGL K g l0 xs vs) : ItOk K g l0 (Itt K a) xs := fun i g' l st ec hN th => by
  have h1 := hn l st
  refine ⟨fun x hx => ?_, fun hx => ⟨vs, h1, by rw [← rv.length]; exact hx⟩⟩
  obtain ⟨v, hv, r⟩ := rv.get hx
  refine ⟨⟨vs, v, h1, hv⟩, fun u H' y => ?_⟩
  obtain ⟨e, y⟩ := y
  subst e
  have eu : u = v := by have := y vs h1; rw [hv] at this; exact (Option.some.inj this).symm
  subst eu
  exact ⟨fun _ _ h => h, fun l1 ea eM eH => rep_here ea eM (fun a o h => by rw [eH]; exact h) (st.rep2 ec hN r)⟩
/-- a list of immutables stays -/
theorem lst_stays {K : PySem.W.Frag} {l0 l : Lc} {a : Addr} {vs : List V} (n : ¬ l0.M a) (h : l0.H a = some (.lst vs)) (st : Step l0 l) : SqL K l.H a vs := SqL.of (st.keep a _ n h)
theorem tup_stays {K : PySem.W.Frag} {g : Gx} {l0 l : Lc} {a : Addr} {vs : List V} (h : ¬ g.L l0 a ∧ Rd l0.H a (.tup vs) ∨ KT K a vs) (st : Step l0 l) : SqT K l.H a vs := by
  rcases h with ⟨n, h⟩ | h
  · exact .inl (Rd.keep (fun o q => st.keep a o (fun z => n (.inl z)) q) h)
  · exact .inr h
theorem frz_stays {K : PySem.W.Frag} {g : Gx} {l0 l : Lc} {a : Addr} {vs : List V} (h : ¬ g.L l0 a ∧ Rd l0.H a (.lst vs) ∨ KL K a vs) (st : Step l0 l) : SqL K l.H a vs := by
  rcases h with ⟨n, h⟩ | h
  · exact .inl (Rd.keep (fun o q => st.keep a o (fun z => n (.inl z)) q) h)
  · exact .inr h
/-- an expression's list is walked -/
theorem ji_seq (he : JE X g e de) : JI X g tg e (iSeq de) := PI.cq (pi_seq he) fun pins s σ H Q I q => by
  obtain ⟨l, s, rfl, ok, q⟩ := q
  refine ⟨l, s, rfl, ok, ?_⟩
  simp only [iSeq] at q
  cases e1 : de s with
  | bad => rw [e1] at q; exact q
  | exn e t => rw [e1] at q; exact q
  | ok v t =>
    rw [e1] at q
    intro l1 u st1 ok1 r1
    cases v with
    | lst xs =>
      obtain ⟨a, vs, rfl, n, h, rv⟩ := r1
      exact ⟨a, rfl, .inl ⟨⟨vs, SqL.of h⟩, q l1 _ st1 ok1 (it_list (fun l st => lst_stays (fun z => n (.inl z)) h st) rv)⟩⟩
    | tup xs =>
      obtain ⟨a, vs, rfl, h, rv⟩ := r1
      exact ⟨a, rfl, .inr ⟨⟨vs, SqT.of2 h⟩, q l1 _ st1 ok1 (it_tup (fun l st => tup_stays h st) rv)⟩⟩
    | frz xs =>
      obtain ⟨a, vs, rfl, h, rv⟩ := r1
      exact ⟨a, rfl, .inl ⟨⟨vs, SqL.of2 h⟩, q l1 _ st1 ok1 (it_list (fun l st => frz_stays h st) rv)⟩⟩
    | _ => exact q.elim
theorem it_range {K : PySem.W.Frag} {l0 : Lc} {lo : Int} {n : Nat} : ItOk K g l0 (Itr lo n) (rangeP lo n) := fun i g' l st ec hN th => by
  have hl : (rangeP lo n).length = n := by simp [rangeP]
  refine ⟨fun x hx => ?_, fun hx => by rw [hl] at hx; exact hx⟩
  unfold rangeP at hx
  rw [List.getElem?_map] at hx
  cases e : (List.range n)[i]? with
  | none => rw [e] at hx; cases hx
  | some k =>
    rw [e] at hx
    obtain ⟨h1, ek⟩ := List.getElem?_eq_some_iff.mp e
    rw [List.getElem_range] at ek
    subst ek
    rw [List.length_range] at h1
    cases hx
    refine ⟨h1, fun u H' y => ?_⟩
    obtain ⟨e1, e2⟩ := y
    subst e1 e2
    exact ⟨fun _ _ h => h, fun _ _ _ _ => rfl⟩
theorem ji_range1 {p : Pos} (ha : JA X g [a] dr) (hm : X.mg "range" = none) (hg : Gl X "range" := by rfl) (hs : starEach [a] X.env = [(false, eval a X.env)] := by rfl) : JI X g tg (.Call (.Name "range" p) [a] [] pos) (iRange1 dr) :=
  PI.cq (pi_range1 hg hm ha hs) fun pins s σ H Q I q => by
    obtain ⟨l, s, rfl, ok, q⟩ := q
    refine ⟨l, s, rfl, ok, ?_⟩
    simp only [iRange1] at q
    cases e1 : dr s with
    | bad => rw [e1] at q; exact q
    | exn e t => rw [e1] at q; exact q
    | ok vs t =>
      rw [e1] at q
      intro l1 us st1 ok1 r1
      simp only [R.bind] at q
      split at q
      · rename_i e2
        split at e2
        · rename_i j
          obtain ⟨v, r, rfl, h1, h2⟩ := r1
          cases (show r = [] from h2)
          cases (show v = .int j from h1)
          by_cases z : -(2 ^ 62) ≤ j ∧ j < 2 ^ 62
          · rw [if_pos z] at e2
            cases e2
            exact ⟨j, rfl, z.1, z.2, q l1 _ st1 ok1 it_range⟩
          · rw [if_neg z] at e2
            cases e2
        · cases e2
      · rename_i e2
        split at e2
        · split at e2 <;> cases e2
        · cases e2
      · exact q.elim
theorem upd_keep {H : Hp} {T : Addr} {o : HO} (h : H T = none) : ∀ a u, H a = some u → upd H T o a = some u := fun a u e => by rw [upd_ne (ne_of_none e h)]; exact e
/-- a pair that an iterator lays anew -/
theorem pair_rep {K : PySem.W.Frag} {l l1 : Lc} {T : Addr} {x y : PV} {u v : V} (hT : l.H T = none) (there : ¬ g.L l T) (ea : l1.al = l.al) (eM : l1.M = l.M) (eH : l1.H = upd l.H T (.tup [u, v])) (rx : RepG K g l x u) (ry : RepG K g l y v) : RepG K g l1 (.tup [x, y]) (.ref T) := by
  have k : ∀ a o, l.H a = some o → l1.H a = some o := fun a o h => by rw [eH]; exact upd_keep hT a o h
  refine ⟨T, [u, v], rfl, .inl ⟨fun z => there (by rcases z with z | z; exact .inl (by rw [← eM]; exact z); exact .inr z), .inl (by rw [eH, upd_same])⟩, u, [v], rfl, rep_here ea eM k rx, v, [], rfl, rep_here ea eM k ry, rfl⟩
theorem it_enum {K : PySem.W.Frag} {l0 : Lc} {a : Addr} {vs : List V} {xs : List PV} (hn : ∀ l, Step l0 l → SqL K l.H a vs) (rv : RepGL K g l0 xs vs) : ItOk K g l0 (Ite K a) (enumP xs) := fun i g' l st ec hN th => by
  have h1 := hn l st
  have hl : (enumP xs).length = xs.length := by simp [enumP]
  refine ⟨fun x hx => ?_, fun hx => ⟨vs, h1, by rw [← rv.length]; rw [hl] at hx; exact hx⟩⟩
  obtain ⟨y, hy, rfl⟩ := enumP_get hx
  obtain ⟨v, hv, r⟩ := rv.get hy
  refine ⟨⟨vs, v, h1, hv⟩, fun u H' z => ?_⟩
  obtain ⟨T, w, rfl, hT, rfl, z⟩ := z
  have ew : w = v := by have := z vs h1; rw [hv] at this; exact (Option.some.inj this).symm
  subst ew
  exact ⟨upd_keep hT, fun l1 ea eM eH => pair_rep hT (fun z => th T z hT) ea eM eH rfl (st.rep2 ec hN r)⟩
end
end L3
namespace L3
open PySem PySem.Spec PyProof.Rows L2
abbrev DL := S → R S (List PV)
def RunF (K : PySem.W.Frag) (g : Gx) (r : R S (List PV)) (l : Lc) (σ : St) (Q : VK) : Prop := match r with
  | .ok xs s' => ∀ l' us p, Step l l' → Sok K g l' s' σ → RepGL K g l' xs us → l'.H p = none → Q (.ref p) (upd l'.H p (.lst us))
  | .exn e s' => ∀ l' cls dd, Step l l' → Sok K g l' s' σ → RepX K g l' e cls dd → g.W cls dd σ l'.H
  | .bad => False
def LF (K : PySem.W.Frag) (g : Gx) (d : DL) : TE := fun σ H Q => ∃ l s, l.H = H ∧ Sok K g l s σ ∧ RunF K g (d s) l σ Q
/-- code that lays a new list -/
abbrev JF (X : Cx) (g : Gx) (e : Expr) (d : DL) : Prop := PE X e (LF X.K g d)
@[simp] def dFr (d : DL) : DE := fun s => (d s).bind fun xs s1 => .ok (.lst xs) s1
@[simp] def okB {a b : Type} (r : R S a) (k : a → S → R S b) : R S b := match r with
  | .ok v s => k v s
  | _ => .bad
def wipeE (env : List (Option SV)) : List Nat → List (Option SV)
  | [] => env
  | v :: vs => (wipeE env vs).set v none
@[simp] def wipeS (vs : List Nat) (s : S) : S := ⟨wipeE s.env vs, s.mu⟩
@[simp] def dYes : DT := fun s => .ok true s
def compL (t : DG) (tt : DT) (te : DE) (vs : List Nat) : List PV → List PV → S → R S (List PV)
  | [], acc, s => .ok acc s
  | x :: xs, acc, s => tgt (t x s) fun s1 => okB (tt s1) fun b s2 => match b with
    | true => okB (te s2) fun y s3 => if acc.length < 16777216 then compL t tt te vs xs (acc ++ [y]) (wipeS vs s3) else .bad
    | false => compL t tt te vs xs acc (wipeS vs s2)
@[simp] def dComp (di : DI) (t : DG) (tt : DT) (te : DE) (vs : List Nat) : DL := fun s => (di s).bind fun xs s1 => compL t tt te vs xs [] (wipeS vs s1)
@[simp] def dLstF (d : DA) : DL := fun s => (d s).bind fun xs s1 => if xs.length ≤ 1000 then .ok xs s1 else .bad
@[simp] def dListF (d : DE) : DL := fun s => (d s).bind fun p s1 => match asL s1.mu p with
  | some xs => .ok xs s1
  | none => .bad
abbrev W0 : WX := fun _ _ _ _ => False
abbrev Gx.at (g : Gx) (N : Addr → Prop) : Gx := ⟨g.CR, N, W0⟩
/-- the same objects known, the abstract heap another -/
theorem Sok.to {K : PySem.W.Frag} {g g' : Gx} {l l' : Lc} {s : S} {σ : St} (ok : Sok K g l s σ) (ec : g'.CR = g.CR) (ea : l'.al = l.al) (eM : l'.M = l.M) (k : ∀ a o, ¬ g.N a → l.H a = some o → l'.H a = some o) (kN : ∀ a o, ¬ g.N a → l.H a = some o → ¬ g'.N a) (th : ∀ a, l.M a ∨ g'.N a → l'.H a ≠ none) : Sok K g' l' s σ := by
  have rp : ∀ x v, RepG K g l x v → RepG K g' l' x v := fun x v h => by
    have q : Rep K g.CR l'.al (g'.L l') l'.H x v := Rep.mono (fun n a h => by rw [ea]; exact h) (fun a o n e => ⟨k a o (fun z => n (.inr z)) e, fun z => by
      rcases z with z | z
      · exact n (.inl (by rw [← eM]; exact z))
      · exact kN a o (fun z => n (.inr z)) e z⟩) x v h
    rw [← ec] at q
    exact q
  have rps : ∀ x v, RepGL K g l x v → RepGL K g' l' x v := fun x v h => by
    rw [RepGL, RepL.iff] at h ⊢
    exact ⟨h.1, fun i y e => let ⟨w, h1, h2⟩ := h.2 i y e; ⟨w, h1, rp y w h2⟩⟩
  refine ⟨ok.len, fun i v e => ?_, fun i xs e => ?_, ok.dis, by rw [ea]; exact ok.mlen, fun n a m h1 h2 => ?_, by rw [ea]; exact ok.nd, by rw [ea, eM]; exact ok.alM, fun a h => th a (by rw [eM] at h; exact h), fun a h z => ?_, fun x hx => (ok.tabs x hx).to (by rw [eM]; exact (ok.tabs x hx).M) (by rw [ea]; exact (ok.tabs x hx).al) (fun _ q => k _ _ (ok.mn _ (ok.tabs x hx).M) q) fun c q n e => ⟨k _ _ (fun z => n (.inr z)) e, fun z => by
    rcases z with z | z
    · exact n (.inl (by rw [← eM]; exact z))
    · exact kN c _ (fun z => n (.inr z)) e z⟩⟩
  · obtain ⟨u, h1, h2⟩ := ok.env i v e
    exact ⟨u, h1, rp v u h2⟩
  · obtain ⟨a, vs, h1, h2, h3, h4, h5⟩ := ok.own i xs e
    exact ⟨a, vs, h1, by rw [eM]; exact h2, by rw [ea]; exact h3, k _ _ (ok.mn a h2) h4, rps xs vs h5⟩
  · rw [ea] at h1
    have hM := ok.alM a (List.mem_of_getElem? h1)
    have q := ok.mu n a m h1 h2
    cases m with
    | lst xs =>
      obtain ⟨vs, q1, q2⟩ := q
      exact ⟨vs, k _ _ (ok.mn a hM) q1, rps _ _ q2⟩
    | ins C ns xs =>
      obtain ⟨dx, vs, q1, q2, q3⟩ := q
      exact ⟨dx, vs, k _ _ (ok.mn a hM) q1, q2, rps _ _ q3⟩
    | nst C ns xs =>
      obtain ⟨dx, vs, q1, q2, q3⟩ := q
      exact ⟨dx, vs, k _ _ (ok.mn a hM) q1, q2, rps _ _ q3⟩
    | dic ns xs =>
      obtain ⟨vs, q1, q2, q9, q3⟩ := q
      exact ⟨vs, k _ _ (ok.mn a hM) q1, q2, q9, rps _ _ q3⟩
  · rw [eM] at h
    have nn := ok.mn a h
    have hs := ok.there a (.inl h)
    cases q : l.H a with
    | none => exact hs q
    | some o => exact kN a o nn q z
theorem RepL.to {K : PySem.W.Frag} {g g' : Gx} {l l' : Lc} (ec : g'.CR = g.CR) (ea : l'.al = l.al) (eM : l'.M = l.M) (k : ∀ a o, ¬ g.N a → l.H a = some o → l'.H a = some o) (kN : ∀ a o, ¬ g.N a → l.H a = some o → ¬ g'.N a) {x : List PV} {v : List V} (h : RepGL K g l x v) : RepGL K g' l' x v := by
  have q : RepL K g.CR l'.al (g'.L l') l'.H x v := RepL.mono (fun n a h => by rw [ea]; exact h) (fun a o n e => ⟨k a o (fun z => n (.inr z)) e, fun z => by
      rcases z with z | z
      · exact n (.inl (by rw [← eM]; exact z))
      · exact kN a o (fun z => n (.inr z)) e z⟩) x v h
  rw [← ec] at q
  exact q
theorem wipeE_len (env : List (Option SV)) : ∀ vs, (wipeE env vs).length = env.length
  | [] => rfl
  | v :: vs => by unfold wipeE; rw [List.length_set, wipeE_len env vs]
theorem wipeE_get {env : List (Option SV)} {i : Nat} {x : SV} : ∀ {vs : List Nat}, (wipeE env vs)[i]? = some (some x) → env[i]? = some (some x) ∧ i ∉ vs
  | [], h => ⟨h, by simp⟩
  | v :: vs, h => by
    unfold wipeE at h
    by_cases e : i = v
    · subst e
      by_cases hl : i < (wipeE env vs).length
      · rw [List.getElem?_set_self hl] at h; cases h
      · rw [List.getElem?_eq_none (by rw [List.length_set]; omega)] at h; cases h
    · rw [List.getElem?_set_ne (Ne.symm e)] at h
      obtain ⟨h1, h2⟩ := wipeE_get h
      exact ⟨h1, fun z => by rcases List.mem_cons.mp z with z | z; exact e z; exact h2 z⟩
theorem wipe_get {σ : St} {i : Nat} : ∀ {vs : List Nat}, i ∉ vs → (wipe σ vs)[i]? = σ[i]?
  | [], _ => rfl
  | v :: vs, h => by
    unfold wipe
    rw [List.getElem?_set_ne (fun z => h (by rw [z]; exact List.mem_cons_self)), wipe_get fun z => h (List.mem_cons_of_mem _ z)]
/-- slots that are forgotten may hold anything -/
theorem Sok.wipe {K : PySem.W.Frag} {g : Gx} {l : Lc} {s : S} {σ τ : St} {vs : List Nat} (ok : Sok K g l s σ) (h : L2.wipe τ vs = L2.wipe σ vs) : Sok K g l (wipeS vs s) τ := by
  have hl : τ.length = σ.length := by rw [← L2.wipe_length τ vs, h, L2.wipe_length]
  have hg : ∀ i, i ∉ vs → τ[i]? = σ[i]? := fun i hi => by rw [← wipe_get (σ := τ) hi, h, wipe_get hi]
  refine ⟨by show (wipeE s.env vs).length = _; rw [wipeE_len, hl]; exact ok.len, fun i v e => ?_, fun i xs e => ?_, fun i j xs ys a hn e1 e2 h1 h2 => ?_, ok.mlen, ok.mu, ok.nd, ok.alM, ok.there, ok.mn, ok.tabs⟩
  · obtain ⟨e, hi⟩ := wipeE_get e
    obtain ⟨u, h1, h2⟩ := ok.env i v e
    exact ⟨u, by rw [hg i hi]; exact h1, h2⟩
  · obtain ⟨e, hi⟩ := wipeE_get e
    obtain ⟨a, vs', h1, h2⟩ := ok.own i xs e
    exact ⟨a, vs', by rw [hg i hi]; exact h1, h2⟩
  · obtain ⟨e1, hi⟩ := wipeE_get e1
    obtain ⟨e2, hj⟩ := wipeE_get e2
    rw [hg i hi] at h1
    rw [hg j hj] at h2
    exact ok.dis i j xs ys a hn e1 e2 h1 h2
theorem wipe_none {i : Nat} : ∀ (ws : List Nat) (τ : St), i ∈ ws → i < τ.length → (L2.wipe τ ws)[i]? = some none
  | w :: ws, τ, h, hl => by
    show ((L2.wipe τ ws).set w none)[i]? = some none
    by_cases e : w = i
    · subst e
      rw [List.getElem?_set_self (by rw [L2.wipe_length]; exact hl)]
    · rw [List.getElem?_set_ne e]
      exact wipe_none ws τ (by rcases List.mem_cons.mp h with h | h; exact absurd h.symm e; exact h) hl
theorem wipe_wipe (σ : St) (vs : List Nat) : L2.wipe (L2.wipe σ vs) vs = L2.wipe σ vs := List.ext_getElem? fun i => by
  by_cases hi : i ∈ vs
  · by_cases hl : i < σ.length
    · rw [wipe_none vs (L2.wipe σ vs) hi (by rw [L2.wipe_length]; exact hl), wipe_none vs σ hi hl]
    · rw [List.getElem?_eq_none (by rw [L2.wipe_length, L2.wipe_length]; omega), List.getElem?_eq_none (by rw [L2.wipe_length]; omega)]
  · rw [wipe_get hi]
theorem Sok.unwipe {K : PySem.W.Frag} {g : Gx} {l : Lc} {s : S} {σ : St} {vs : List Nat} (ok : Sok K g l s (L2.wipe σ vs)) : Sok K g l s σ := by
  refine ⟨by rw [ok.len, L2.wipe_length], fun i v e => ?_, fun i xs e => ?_, fun i j xs ys a hn e1 e2 h1 h2 => ?_, ok.mlen, ok.mu, ok.nd, ok.alM, ok.there, ok.mn, ok.tabs⟩
  · obtain ⟨u, h1, h2⟩ := ok.env i v e
    exact ⟨u, (wipe_some h1).1, h2⟩
  · obtain ⟨a, ws, h1, h2⟩ := ok.own i xs e
    exact ⟨a, ws, (wipe_some h1).1, h2⟩
  · obtain ⟨b, _, h3, _⟩ := ok.own i xs e1
    obtain ⟨c, _, h4, _⟩ := ok.own j ys e2
    have k3 := (wipe_some h3).1
    have k4 := (wipe_some h4).1
    rw [h1] at k3
    rw [h2] at k4
    cases k3
    cases k4
    exact ok.dis i j xs ys a hn e1 e2 h3 h4
theorem compL_noexn {t : DG} {tt : DT} {te : DE} {vs : List Nat} : ∀ (xs acc : List PV) (s : S) (e : PV) (u : S), compL t tt te vs xs acc s ≠ .exn e u
  | [], acc, s, e, u, h => by unfold compL at h; cases h
  | x :: xs, acc, s, e, u, h => by
    unfold compL at h
    cases e1 : t x s with
    | bad => rw [e1] at h; cases h
    | exn => rw [e1] at h; cases h
    | ok v s1 =>
      rw [e1] at h
      simp only [tgt] at h
      cases e2 : tt s1 with
      | bad => rw [e2] at h; cases h
      | exn => rw [e2] at h; cases h
      | ok b s2 =>
        rw [e2] at h
        simp only [okB] at h
        cases b with
        | false => exact compL_noexn xs acc _ e u h
        | true =>
          cases e3 : te s2 with
          | bad => simp only [e3] at h; cases h
          | exn => simp only [e3] at h; cases h
          | ok y s3 =>
            simp only [e3] at h
            split at h
            · exact compL_noexn xs _ _ e u h
            · cases h
def del (H : Hp) (D : Addr) : Hp := fun a => if a = D then none else H a
theorem del_ne {H : Hp} {D a : Addr} (h : a ≠ D) : del H D a = H a := by unfold del; rw [if_neg h]
theorem del_same {H : Hp} {D : Addr} : del H D D = none := by unfold del; rw [if_pos rfl]
theorem upd_del {H : Hp} {D : Addr} {o : HO} (h : H D = some o) : upd (del H D) D o = H := by
  funext a
  unfold upd del
  by_cases e : a = D
  · rw [if_pos e, e, h]
  · rw [if_neg e, if_neg e]
section
variable {X : Cx} {g : Gx} {a b c e tg iter elt : Expr} {es ifs : List Expr} {da db dc de : DE} {dr : DA} {dl : DL} {pos : Pos}
theorem j_ofF (h : JF X g e dl) : JE X g e (dFr dl) := PE.cq h fun pins s σ H Q I q => by
  obtain ⟨l, s, rfl, ok, q⟩ := q
  refine ⟨l, s, rfl, ok, ?_⟩
  simp only [dFr] at q
  cases e1 : dl s with
  | bad => rw [e1] at q; exact q
  | exn e t => rw [e1] at q; exact q
  | ok xs t =>
    rw [e1] at q
    exact fun l1 us p st1 ok1 r1 hp => Run.lst (Run.step (r := .ok (.lst xs) t) q st1) ok1 r1 p hp
theorem jf_lst (h : JA X g es dr) : JF X g (.List es pos) (dLstF dr) := PE.cq (pe_lst h) fun pins s σ H Q I q => by
  obtain ⟨l, s, rfl, ok, q⟩ := q
  refine ⟨l, s, rfl, ok, ?_⟩
  simp only [dLstF] at q
  cases e1 : dr s with
  | bad => rw [e1] at q; exact q
  | exn e t => rw [e1] at q; exact q
  | ok xs t =>
    rw [e1] at q
    intro l1 us st1 ok1 r1
    simp only [R.bind] at q
    by_cases z : xs.length ≤ 1000
    · rw [if_pos z] at q
      exact ⟨by rw [line_eq, ← r1.length]; omega, fun p hp => q l1 us p st1 ok1 r1 hp⟩
    · rw [if_neg z] at q
      exact q.elim
theorem jf_list {x p : Pos} (ha : JE X g a da) (hm : X.mg "list" = none) (hg : Gl X "list" := by rfl)
    (he : starEach [a] X.env = (false, eval a X.env) :: starEach [] X.env := by rfl) (hpl : (backTo pos (starEach [] X.env)).any (·.1) = false := by rfl) : JF X g (.Call (.Name "list" p) [a] [] pos) (dListF da) :=
  PE.cq (pe_callTy call_list_of hg hm (by decide +kernel) (pa_cons ha pa_nil he) (by decide) (by decide) he hpl) fun pins s σ H Q I q => by
    obtain ⟨l, s, rfl, ok, q⟩ := q
    refine ⟨l, s, rfl, ok, ?_⟩
    simp only [dListF] at q
    cases e1 : da s with
    | bad => rw [e1] at q; exact q
    | exn e t => rw [e1] at q; exact q
    | ok v t =>
      rw [e1] at q
      intro l1 u st1 ok1 r1
      simp only [R.bind] at q
      cases e2 : asL t.mu v with
      | none => rw [e2] at q; exact q.elim
      | some ys =>
        rw [e2] at q
        obtain ⟨p, vs, rfl, hq, rv⟩ := rep_asL ok1 r1 e2
        exact ⟨p, vs, rfl, hq, fun l' hl => q l1 vs l' st1 ok1 rv hl⟩
/-- what a comprehension's reading asks -/
theorem comp_reads {js vs : List Nat} {di : DI} {t : DG} {tt : DT} {te : DE} (hjs : ∀ i ∈ js, i ∈ vs) {σ : St} {H : Hp} {Q : VK} (q : LF X.K g (dComp di t tt te vs) σ H Q) :
    tLc (LI X.K g di (ItOk X.K g)) (fun v σ H Q => ∃ N, LG X.K (g.at N) js t v σ H Q) (fun σ H Q => ∃ N, LT X.K (g.at N) tt σ H Q) (fun σ H Q => ∃ N, LE X.K (g.at N) te σ H Q) vs σ H Q := by
  obtain ⟨l, s, rfl, ok, q⟩ := q
  refine ⟨l, s, rfl, ok, ?_⟩
  simp only [dComp] at q
  cases e1 : di s with
  | bad => rw [e1] at q; exact q
  | exn e t => rw [e1] at q; exact q
  | ok xs s1 =>
    rw [e1] at q
    simp only [R.bind] at q
    intro l1 J st1 ok1 it D hD
    have hND : ¬ g.L l1 D := ok1.fresh hD
    let N' : Addr → Prop := fun a => g.N a ∨ a = D
    have neD : ∀ a o, l1.H a = some o → a ≠ D := fun a o h z => by rw [z, hD] at h; cases h
    have hu : ∀ a o, l1.H a = some o → upd l1.H D (.lst []) a = some o := fun a o h => by rw [upd_ne (neD a o h)]; exact h
    have okS : Sok X.K (g.at N') ⟨l1.al, l1.M, upd l1.H D (.lst [])⟩ (wipeS vs s1) (L2.wipe σ vs) := by
      refine Sok.wipe (σ := σ) (Sok.to ok1 rfl rfl rfl (fun a o _ h => hu a o h) (fun a o n h z => ?_) (fun a h => ?_)) (wipe_wipe σ vs)
      · rcases z with z | z
        · exact n z
        · exact neD a o h z
      · rcases h with h | h | h
        · cases q : l1.H a with
          | none => exact absurd q (ok1.there a (.inl h))
          | some o => show upd l1.H D _ a ≠ none; rw [hu a o q]; simp
        · cases q : l1.H a with
          | none => exact absurd q (ok1.there a (.inr h))
          | some o => show upd l1.H D _ a ≠ none; rw [hu a o q]; simp
        · show upd l1.H D _ a ≠ none
          rw [h, upd_same]; simp
    have stS : Step l1 ⟨l1.al, l1.M, upd l1.H D (.lst [])⟩ := Step.alloc hD
    -- the invariant's last part
    let Fin (r : R S (List PV)) : Prop := match r with
      | .ok ys s' => ∀ l' us, Step l1 l' → Sok X.K (g.at N') l' s' (L2.wipe σ vs) → RepGL X.K (g.at N') l' ys us → l'.H D = some (.lst us) → Q (.ref D) l'.H
      | _ => False
    have fin0 : Fin (compL t tt te vs xs [] (wipeS vs s1)) := by
      show (match compL t tt te vs xs [] (wipeS vs s1) with | .ok ys s' => _ | _ => False)
      cases e2 : compL t tt te vs xs [] (wipeS vs s1) with
      | bad => rw [e2] at q; exact q
      | exn e t => exact absurd e2 (compL_noexn _ _ _ _ _)
      | ok ys s' =>
        rw [e2] at q
        intro l' us st' ok' r' hD'
        have nD : ∀ a, ¬ N' a → a ≠ D := fun a n z => n (.inr z)
        have k0 : ∀ a o, ¬ N' a → l'.H a = some o → del l'.H D a = some o := fun a o n h => by rw [del_ne (nD a n)]; exact h
        have st2 : Step l1 ⟨l'.al, l'.M, del l'.H D⟩ := by
          refine ⟨st'.pre, st'.new, fun a o n h => ?_, fun a h => ?_⟩
          · show del l'.H D a = some o
            rw [del_ne (neD a o h)]
            exact st'.keep a o n h
          · cases e : l1.H a with
            | none => exact absurd e h
            | some o =>
              show del l'.H D a ≠ none
              rw [del_ne (neD a o e)]
              exact st'.dom a h
        have ok2 : Sok X.K g ⟨l'.al, l'.M, del l'.H D⟩ s' σ := by
          refine Sok.unwipe (vs := vs) (Sok.to ok' rfl rfl rfl k0 (fun a o n _ z => n (.inl z)) fun a h => ?_)
          have ne : a ≠ D := fun z => by
            rcases h with h | h
            · exact ok'.mn a h (.inr z)
            · rw [z] at h
              exact hND (.inr h)
          show del l'.H D a ≠ none
          rw [del_ne ne]
          exact ok'.there a (by rcases h with h | h; exact .inl h; exact .inr (.inl h))
        have z := q ⟨l'.al, l'.M, del l'.H D⟩ us D (st1.trans st2) ok2 (RepL.to (g := g.at N') (g' := g) (l := l') (l' := ⟨l'.al, l'.M, del l'.H D⟩) rfl rfl rfl k0 (fun a o n _ z => n (.inl z)) r') del_same
        rw [show upd (del l'.H D) D (.lst us) = l'.H from upd_del hD'] at z
        exact z
    have hDM : ∀ {l : Lc} {s : S} {τ : St}, Sok X.K (g.at N') l s τ → ¬ l.M D := fun ok z => ok.mn D z (.inr rfl)
    refine ⟨fun i m H => m = xs.length - i ∧ i ≤ xs.length ∧ ∃ l s acc us, l.H = H ∧ Step l1 l ∧ Sok X.K (g.at N') l s (L2.wipe σ vs) ∧ H D = some (.lst us) ∧ RepGL X.K (g.at N') l acc us ∧ Fin (compL t tt te vs (xs.drop i) acc s),
      ⟨xs.length, by simp, Nat.zero_le _, _, wipeS vs s1, [], [], rfl, stS, okS, upd_same, rfl, fin0⟩, ?_⟩
    rintro i m H ⟨rfl, hi, l2, s2, acc, us, rfl, st2, ok2, hD2, r2, f2⟩
    obtain ⟨i1, i2⟩ := it i (g.at N') l2 st2 rfl (fun a h => by rcases h with h | h; exact .inl h; exact .inr (by rw [h]; exact hD)) ok2.there
    by_cases hlt : i < xs.length
    · obtain ⟨g1, g2⟩ := i1 xs[i] (by simp [hlt])
      refine .inr ⟨g1, fun H' => ∃ l s acc us, l.H = H' ∧ Step l1 l ∧ Sok X.K (g.at N') l s (L2.wipe σ vs) ∧ H' D = some (.lst us) ∧ RepGL X.K (g.at N') l acc us ∧ Fin (compL t tt te vs (xs.drop (i + 1)) acc s),
        fun H' z => ⟨xs.length - (i + 1), by omega, rfl, hlt, z⟩, fun x H' y => ?_⟩
      obtain ⟨k1, k2⟩ := g2 x H' y
      rw [List.drop_eq_getElem_cons hlt] at f2
      have ok3 : Sok X.K (g.at N') ⟨l2.al, l2.M, H'⟩ s2 (L2.wipe σ vs) := ok2.grow rfl rfl k1
      have st3 : Step l2 ⟨l2.al, l2.M, H'⟩ := ⟨⟨[], by simp⟩, fun _ h => .inl h, fun a o _ h => k1 a o h, fun a h => by
        cases q : l2.H a with
        | none => exact absurd q h
        | some o => show H' a ≠ none; rw [k1 a o q]; simp⟩
      refine ⟨N', ⟨l2.al, l2.M, H'⟩, s2, xs[i], rfl, ok3, k2 _ rfl rfl rfl, ?_⟩
      unfold compL at f2
      cases et : t xs[i] s2 with
      | bad => rw [et] at f2; exact f2.elim
      | exn e t => rw [et] at f2; exact f2.elim
      | ok v s3 =>
        rw [et] at f2
        simp only [tgt] at f2
        intro l4 σ2 st4 ok4 hw
        refine ⟨(hw vs hjs).trans (wipe_wipe σ vs), N', l4, s3, rfl, ok4, ?_⟩
        cases ett : tt s3 with
        | bad => rw [ett] at f2; exact f2.elim
        | exn e t => rw [ett] at f2; exact f2.elim
        | ok b s4 =>
          rw [ett] at f2
          simp only [okB] at f2
          intro l5 st5 ok5
          have stA : Step l2 l5 := st3.trans (st4.trans st5)
          have hD5 : l5.H D = some (.lst us) := stA.keep D _ (hDM ok2) hD2
          cases b with
          | false => exact ⟨l5, wipeS vs s4, acc, us, rfl, st2.trans stA, Sok.wipe ok5 (hw vs hjs).symm, hD5, stA.reps r2, f2⟩
          | true =>
            refine (if_pos rfl).mpr ⟨N', l5, s4, rfl, ok5, ?_⟩
            simp only at f2
            cases ee : te s4 with
            | bad => rw [ee] at f2; exact f2.elim
            | exn e t => rw [ee] at f2; exact f2.elim
            | ok y s5 =>
              rw [ee] at f2
              simp only at f2
              intro l6 u st6 ok6 r6
              have hD6 : l6.H D = some (.lst us) := st6.keep D _ (hDM ok5) hD5
              by_cases hz : acc.length < 16777216
              · rw [if_pos hz] at f2
                refine ⟨us, hD6, by rw [line_eq, ← r2.length]; exact hz, ?_⟩
                have k7 : ∀ a o, ¬ N' a → l6.H a = some o → upd l6.H D (.lst (us ++ [u])) a = some o := fun a o n h => by rw [upd_ne (fun z => n (.inr z))]; exact h
                have stB : Step l1 l6 := st2.trans (stA.trans st6)
                refine ⟨⟨l6.al, l6.M, upd l6.H D (.lst (us ++ [u]))⟩, wipeS vs s5, acc ++ [y], us ++ [u], rfl, ?_, ?_, upd_same, ?_, ?_⟩
                · refine ⟨stB.pre, stB.new, fun a o n h => ?_, fun a h => ?_⟩
                  · show upd l6.H D _ a = some o
                    rw [upd_ne (neD a o h)]
                    exact stB.keep a o n h
                  · show upd l6.H D _ a ≠ none
                    by_cases e : a = D
                    · rw [e, upd_same]; simp
                    · rw [upd_ne e]; exact stB.dom a h
                · refine Sok.wipe (σ := σ2) (Sok.to ok6 rfl rfl rfl k7 (fun a o n _ => n) fun a h => ?_) (hw vs hjs).symm
                  by_cases e : a = D
                  · show upd l6.H D _ a ≠ none
                    rw [e, upd_same]; simp
                  · show upd l6.H D _ a ≠ none
                    rw [upd_ne e]
                    exact ok6.there a h
                · have rq : RepGL X.K (g.at N') l6 [y] [u] := ⟨u, [], rfl, r6, rfl⟩
                  exact RepL.to (g := g.at N') (g' := g.at N') (l := l6) (l' := ⟨l6.al, l6.M, upd l6.H D (.lst (us ++ [u]))⟩) rfl rfl rfl k7 (fun a o n _ => n) (((stA.trans st6).reps r2).append rq)
                · exact f2
              · rw [if_neg hz] at f2
                exact f2.elim
    · have ei : i = xs.length := by omega
      refine .inl ⟨i2 (by omega), ?_⟩
      rw [ei, List.drop_length] at f2
      unfold compL at f2
      exact f2 l2 us st2 ok2 r2 hD2
theorem PG.ex {t : (Addr → Prop) → TG} (h : ∀ N, PG X e (t N)) : PG X e (fun v σ H Q => ∃ N, t N v σ H Q) := ⟨fun pins s σ H v u Q I r ⟨N, q⟩ => (h N).run pins s σ H v u Q I r q⟩
theorem PE.ex {t : (Addr → Prop) → TE} (h : ∀ N, PE X e (t N)) : PE X e (fun σ H Q => ∃ N, t N σ H Q) := ⟨fun pins s σ H Q I ⟨N, q⟩ => (h N).run pins s σ H Q I q⟩
theorem PTs.ex {t : (Addr → Prop) → TT} (h : ∀ N, PTs X ifs (t N)) : PTs X ifs (fun σ H Q => ∃ N, t N σ H Q) := ⟨fun pins s σ H Q I ⟨N, q⟩ => (h N).run pins s σ H Q I q⟩
abbrev JTs (X : Cx) (g : Gx) (es : List Expr) (d : DT) : Prop := PTs X es (LT X.K g d)
theorem jts_nil : JTs X g [] dYes := ⟨fun pins s σ H Q I q => by
  obtain ⟨l, st, rfl, ok, q⟩ := q
  exact pts_nil.run pins s σ l.H Q I (q l (Step.refl l) ok)⟩
theorem jts_one {dt : DT} (h : JT X g e dt) : JTs X g [e] dt := pts_one h
theorem jf_comp {scope : Scope} {own : List (Str × Nat)} {di : DI} {t : DG} {tt : DT} {te : DE} {js : List Nat} (hc : X.calm = true) (hN : X.N.Nodup) (hi : JI X g tg iter di) (ok : BlkOk X.N X.env.scope scope own)
    (hg : ∀ (s : Shared) (H : Hp) (C : Addr) (cl : List (Str × Addr)) (fp : List Addr) (N : Addr → Prop), JG (X.blk s H scope (compEnvC scope cl C X.env) fp) (g.at N) js tg t)
    (ht : ∀ (s : Shared) (H : Hp) (C : Addr) (cl : List (Str × Addr)) (fp : List Addr) (N : Addr → Prop), JTs (X.blk s H scope (compEnvC scope cl C X.env) fp) (g.at N) ifs tt)
    (he : ∀ (s : Shared) (H : Hp) (C : Addr) (cl : List (Str × Addr)) (fp : List Addr) (N : Addr → Prop), JE (X.blk s H scope (compEnvC scope cl C X.env) fp) (g.at N) elt te)
    (hjs : ∀ i ∈ js, i ∈ own.map (·.2) := by decide) (hs : ∀ x, foldedSetIterable iter X.env x = pure x := by intro _; rfl) : JF X g (.ListComp elt [⟨tg, iter, ifs, 0⟩] scope pos) (dComp di t tt te (own.map (·.2))) :=
  PE.cq (pe_lc hc hN hi ok (fun s H C cl fp => PG.ex (hg s H C cl fp)) (fun s H C cl fp => PTs.ex (ht s H C cl fp)) (fun s H C cl fp => PE.ex (he s H C cl fp)) hs) fun pins s σ H Q I q => comp_reads hjs q
theorem set_reads {i : Nat} {D : Ends} {σ : St} {H : Hp} (q : LS X.K g (dSet i (dFr dl)) D σ H) : LF X.K g dl σ H (fun x H1 => D.nx (σ.set i (some x)) H1) := by
  obtain ⟨l, s, rfl, ok, q⟩ := q
  refine ⟨l, s, rfl, ok, ?_⟩
  simp only [dSet, dFr] at q
  cases e : dl s with
  | bad => rw [e] at q; exact q
  | exn e t => rw [e] at q; exact fun l' c d => q l' σ c d
  | ok xs t =>
    rw [e] at q
    intro l1 us p st1 ok1 r1 hp
    refine q ⟨l1.al, l1.M, upd l1.H p (.lst us)⟩ _ (st1.trans (Step.alloc hp)) ((ok1.alloc hp).set ?_)
    exact ⟨p, us, rfl, ok1.fresh hp, upd_same, (Step.alloc hp).reps r1⟩
/-- y = [..] on one line -/
theorem js_setLc {scope : Scope} {own : List (Str × Nat)} {di : DI} {t : DG} {tt : DT} {te : DE} {js : List Nat} {i : Nat} {y : Str} {py spos : Pos} (hc : X.calm = true) (hN : X.N.Nodup)
    (hsw : swapsWith (.ListComp elt [⟨tg, iter, ifs, 0⟩] scope pos) (some (.Name y py)) spos.line X.env = pure true) (hi : JI X g tg iter di) (ok : BlkOk X.N X.env.scope scope own)
    (hg : ∀ (s : Shared) (H : Hp) (C : Addr) (cl : List (Str × Addr)) (fp : List Addr) (N : Addr → Prop), JG (X.blk s H scope (compEnvC scope cl C X.env) fp) (g.at N) js tg t)
    (ht : ∀ (s : Shared) (H : Hp) (C : Addr) (cl : List (Str × Addr)) (fp : List Addr) (N : Addr → Prop), JTs (X.blk s H scope (compEnvC scope cl C X.env) fp) (g.at N) ifs tt)
    (he : ∀ (s : Shared) (H : Hp) (C : Addr) (cl : List (Str × Addr)) (fp : List Addr) (N : Addr → Prop), JE (X.blk s H scope (compEnvC scope cl C X.env) fp) (g.at N) elt te)
    (hy : X.N[i]? = some y := by rfl) (hyl : X.env.scope.names.lookup y = some .local := by rfl)
    (hjs : ∀ i ∈ js, i ∈ own.map (·.2) := by decide) (hs : ∀ x, foldedSetIterable iter X.env x = pure x := by intro _; rfl) : JS X g (.Assign [.Name y py] (.ListComp elt [⟨tg, iter, ifs, 0⟩] scope pos) spos) (dSet i (dFr (dComp di t tt te (own.map (·.2))))) :=
  PS.cq (ps_setLc hc hN hy hyl hsw hi ok (fun s H C cl fp => PG.ex (hg s H C cl fp)) (fun s H C cl fp => PTs.ex (ht s H C cl fp)) (fun s H C cl fp => PE.ex (he s H C cl fp)) hs) fun pins s D σ H I q => comp_reads hjs (set_reads q)
end
end L3
namespace L3
open PySem PySem.Spec PyProof.Rows L2
@[simp] def setO (i : Nat) (xs : List PV) (s : S) : S := ⟨s.env.set i (some (.own xs)), s.mu⟩
@[simp] def setM (n : Nat) (xs : List PV) (s : S) : S := ⟨s.env, s.mu.set n (.lst xs)⟩
@[simp] def dOwn (i : Nat) (d : DL) : DS := fun s => (d s).bind fun xs s1 => .ok .nx (setO i xs s1)
@[simp] def dNewF (d : DL) : DE := fun s => (d s).bind fun xs s1 => .ok (.ptr s1.mu.length) ⟨s1.env, s1.mu ++ [.lst xs]⟩
/-- the list that slot i holds, to be changed: its items, and how it is written -/
@[simp] def lstAt (i : Nat) (s : S) : Option (List PV × (List PV → S)) := match s.env[i]? with
  | some (some (.own xs)) => some (xs, fun ys => setO i ys s)
  | some (some (.val (.ptr n))) => (match s.mu[n]? with
    | some (.lst xs) => some (xs, fun ys => setM n ys s)
    | _ => none)
  | _ => none
@[simp] def dApp (i : Nat) (d : DE) : DE := fun s => match lstAt i s with
  | some _ => (d s).bind fun v s1 => (match lstAt i s1 with
    | some (xs, k) => if xs.length < 16777216 then .ok .non (k (xs ++ [v])) else .bad
    | none => .bad)
  | none => .bad
@[simp] def dPopAt (i : Nat) (d : DE) : DE := fun s => match lstAt i s with
  | some _ => (d s).bind fun v s1 => (match v, lstAt i s1 with
    | .int j, some (xs, k) => (match ixN xs.length j with
      | some m => (match xs[m]? with
        | some y => if xs.length ≤ 16777216 then .ok y (k (xs.eraseIdx m)) else .bad
        | none => .bad)
      | none => .bad)
    | _, _ => .bad)
  | none => .bad
@[simp] def dPut (i : Nat) (d ix : DE) : DS := fun s => (d s).bind fun v s1 => match lstAt i s1 with
  | some _ => (ix s1).bind fun j s2 => (match j, lstAt i s2 with
    | .int j, some (xs, k) => (match ixN xs.length j with
      | some m => .ok .nx (k (xs.set m v))
      | none => .bad)
    | _, _ => .bad)
  | none => .bad
section
variable {K : PySem.W.Frag} {g : Gx} {l : Lc} {s : S} {σ : St} {xs ys : List PV} {vs ws : List V} {i n : Nat} {a : Addr}
theorem Step.at_ (h : l.M a) (o : HO) : Step l ⟨l.al, l.M, upd l.H a o⟩ where
  pre := ⟨[], by simp⟩
  new := fun _ h => .inl h
  keep := fun b u n e => by show upd l.H a o b = some u; rw [upd_ne (fun z => n (by rw [z]; exact h))]; exact e
  dom := fun b h => by
    show upd l.H a o b ≠ none
    by_cases e : b = a
    · rw [e, upd_same]; simp
    · rw [upd_ne e]; exact h
theorem upd_there {H : Hp} {a b : Addr} {o : HO} (h : H b ≠ none) : upd H a o b ≠ none := by
  by_cases e : b = a
  · rw [e, upd_same]; simp
  · rw [upd_ne e]; exact h
theorem Sok.ownSet (ok : Sok K g l s σ) (he : s.env[i]? = some (some (.own xs))) (hs : σ[i]? = some (some (.ref a))) (hM : l.M a) (hal : a ∉ l.al) (r : RepGL K g l ys ws) :
    Sok K g ⟨l.al, l.M, upd l.H a (.lst ws)⟩ (setO i ys s) σ := by
  have st : Step l ⟨l.al, l.M, upd l.H a (.lst ws)⟩ := Step.at_ hM _
  have hi : i < s.env.length := (List.getElem?_eq_some_iff.mp he).1
  have oth : ∀ (j : Nat) zs, j ≠ i → (s.env.set i (some (.own ys)))[j]? = some (some (.own zs)) → s.env[j]? = some (some (.own zs)) := fun j zs e h => by rw [List.getElem?_set_ne (Ne.symm e)] at h; exact h
  refine ⟨by show (s.env.set i _).length = _; rw [List.length_set]; exact ok.len, fun j v h => ?_, fun j zs h => ?_, fun j k zs us b hn h1 h2 h3 h4 => ?_, ok.mlen, fun m b o h1 h2 => ?_, ok.nd, ok.alM, fun b h => upd_there (ok.there b h), ok.mn, fun x hx => ?_⟩
  rotate_right
  · obtain ⟨a', vs', e1, _, _, e4, _⟩ := ok.own i xs he
    rw [hs] at e1
    cases e1
    have ne := (ok.tabs x hx).ne e4 fun ps z => by cases z
    exact (ok.tabs x hx).to (ok.tabs x hx).M (ok.tabs x hx).al (fun ps q => by show upd l.H a _ _ = _; rw [upd_ne ne]; exact q) fun c q n e => st.repL' c _ n e
  · rcases get_set h with ⟨_, e, _⟩ | ⟨e, h⟩
    · cases e
    · obtain ⟨u, h1, h2⟩ := ok.env j v h
      exact ⟨u, h1, st.rep h2⟩
  · by_cases e : j = i
    · subst e
      have h' : (s.env.set j (some (.own ys)))[j]? = some (some (.own zs)) := h
      rw [List.getElem?_set_self hi] at h'
      cases h'
      exact ⟨a, ws, hs, hM, hal, upd_same, st.reps r⟩
    · have h' := oth j zs e h
      obtain ⟨b, us, h1, h2, h3, h4, h5⟩ := ok.own j zs h'
      have ne : b ≠ a := fun z => by rw [z] at h1; exact ok.dis j i zs xs a e h' he h1 hs
      exact ⟨b, us, h1, h2, h3, by show upd l.H a _ b = _; rw [upd_ne ne]; exact h4, st.reps h5⟩
  · have g1 : ∃ zs', s.env[j]? = some (some (.own zs')) := by
      by_cases e : j = i
      · rw [e]; exact ⟨xs, he⟩
      · exact ⟨zs, oth j zs e h1⟩
    have g2 : ∃ zs', s.env[k]? = some (some (.own zs')) := by
      by_cases e : k = i
      · rw [e]; exact ⟨xs, he⟩
      · exact ⟨us, oth k us e h2⟩
    obtain ⟨z1, q1⟩ := g1
    obtain ⟨z2, q2⟩ := g2
    exact ok.dis j k z1 z2 b hn q1 q2 h3 h4
  · have ne : b ≠ a := fun z => hal (by rw [← z]; exact List.mem_of_getElem? h1)
    have q := ok.mu m b o h1 h2
    cases o with
    | lst zs =>
      obtain ⟨us, q1, q2⟩ := q
      exact ⟨us, by show upd l.H a _ b = _; rw [upd_ne ne]; exact q1, st.reps q2⟩
    | ins C ns zs =>
      obtain ⟨dx, us, q1, q2, q3⟩ := q
      exact ⟨dx, us, by show upd l.H a _ b = _; rw [upd_ne ne]; exact q1, q2, st.reps q3⟩
    | nst C ns zs =>
      obtain ⟨dx, us, q1, q2, q3⟩ := q
      exact ⟨dx, us, by show upd l.H a _ b = _; rw [upd_ne ne]; exact q1, q2, st.reps q3⟩
    | dic ns zs =>
      obtain ⟨us, q1, q2, q9, q3⟩ := q
      exact ⟨us, by show upd l.H a _ b = _; rw [upd_ne ne]; exact q1, q2, q9, st.reps q3⟩
theorem Sok.muSet {o' : HO} {m' : MO} (ok : Sok K g l s σ) (ha : l.al[n]? = some a) (r : ∀ l', l'.al = l.al → l'.M = l.M → l'.H = upd l.H a o' → MoRep K g l' a m') :
    Sok K g ⟨l.al, l.M, upd l.H a o'⟩ ⟨s.env, s.mu.set n m'⟩ σ := by
  have hM : l.M a := ok.alM a (List.mem_of_getElem? ha)
  have st : Step l ⟨l.al, l.M, upd l.H a o'⟩ := Step.at_ hM _
  refine ⟨ok.len, fun j v h => ?_, fun j zs h => ?_, ok.dis, by show l.al.length = (s.mu.set n m').length; rw [List.length_set]; exact ok.mlen, fun m b o h1 h2 => ?_, ok.nd, ok.alM, fun b h => upd_there (ok.there b h), ok.mn, fun x hx => ?_⟩
  rotate_right
  · have ne : tA K x ≠ a := fun z => (ok.tabs x hx).al (by rw [z]; exact List.mem_of_getElem? ha)
    exact (ok.tabs x hx).to (ok.tabs x hx).M (ok.tabs x hx).al (fun ps q => by show upd l.H a _ _ = _; rw [upd_ne ne]; exact q) fun c q n e => st.repL' c _ n e
  · obtain ⟨u, h1, h2⟩ := ok.env j v h
    exact ⟨u, h1, st.rep h2⟩
  · obtain ⟨b, us, h1, h2, h3, h4, h5⟩ := ok.own j zs h
    have ne : b ≠ a := fun z => h3 (by rw [z]; exact List.mem_of_getElem? ha)
    exact ⟨b, us, h1, h2, h3, by show upd l.H a _ b = _; rw [upd_ne ne]; exact h4, st.reps h5⟩
  · have h1' : l.al[m]? = some b := h1
    have h2' : (s.mu.set n m')[m]? = some o := h2
    by_cases e : m = n
    · subst e
      rw [h1'] at ha
      cases ha
      by_cases hl : m < s.mu.length
      · rw [List.getElem?_set_self hl] at h2'
        cases h2'
        exact r _ rfl rfl rfl
      · rw [List.getElem?_eq_none (by rw [List.length_set]; omega)] at h2'
        cases h2'
    · rw [List.getElem?_set_ne (Ne.symm e)] at h2'
      have ne : b ≠ a := fun z => by
        rw [z] at h1'
        have hm : m < l.al.length := (List.getElem?_eq_some_iff.mp h1').1
        have hn' : n < l.al.length := (List.getElem?_eq_some_iff.mp ha).1
        exact e ((List.getElem_inj ok.nd).mp ((List.getElem?_eq_some_iff.mp h1').2.trans (List.getElem?_eq_some_iff.mp ha).2.symm))
      have q := ok.mu m b o h1' h2'
      cases o with
      | lst zs =>
        obtain ⟨us, q1, q2⟩ := q
        exact ⟨us, by show upd l.H a _ b = _; rw [upd_ne ne]; exact q1, st.reps q2⟩
      | ins C ns zs =>
        obtain ⟨dx, us, q1, q2, q3⟩ := q
        exact ⟨dx, us, by show upd l.H a _ b = _; rw [upd_ne ne]; exact q1, q2, st.reps q3⟩
      | nst C ns zs =>
        obtain ⟨dx, us, q1, q2, q3⟩ := q
        exact ⟨dx, us, by show upd l.H a _ b = _; rw [upd_ne ne]; exact q1, q2, st.reps q3⟩
      | dic ns zs =>
        obtain ⟨us, q1, q2, q9, q3⟩ := q
        exact ⟨us, by show upd l.H a _ b = _; rw [upd_ne ne]; exact q1, q2, q9, st.reps q3⟩
/-- a slot's list: where it lies, and how it is written -/
theorem Sok.lst {k : List PV → S} (ok : Sok K g l s σ) (h : lstAt i s = some (xs, k)) : ∃ a vs, σ[i]? = some (some (.ref a)) ∧ l.M a ∧ l.H a = some (.lst vs) ∧ RepGL K g l xs vs ∧
    ∀ ys ws, RepGL K g l ys ws → Sok K g ⟨l.al, l.M, upd l.H a (.lst ws)⟩ (k ys) σ := by
  unfold lstAt at h
  split at h
  · rename_i zs e
    cases h
    obtain ⟨a, vs, h1, h2, h3, h4, h5⟩ := ok.own i _ e
    exact ⟨a, vs, h1, h2, h4, h5, fun ys ws r => ok.ownSet e h1 h2 h3 r⟩
  · rename_i n e
    split at h
    · rename_i zs e2
      cases h
      obtain ⟨u, h1, b, h2, h3⟩ := ok.env i _ e
      subst h3
      obtain ⟨vs, h4, h5⟩ := ok.mu n b _ h2 e2
      refine ⟨b, vs, h1, ok.alM b (List.mem_of_getElem? h2), h4, h5, fun ys ws r => ok.muSet h2 fun l' ea eM eH => ?_⟩
      refine ⟨ws, by rw [eH, upd_same], ?_⟩
      have st : Step l ⟨l.al, l.M, upd l.H b (.lst ws)⟩ := Step.at_ (ok.alM b (List.mem_of_getElem? h2)) _
      obtain ⟨al', M', H'⟩ := l'
      cases ea
      cases eM
      cases eH
      exact st.reps r
    · cases h
  · cases h
end
section
variable {K : PySem.W.Frag} {g : Gx} {l : Lc} {s : S} {σ : St} {xs ys : List PV} {us : List V} {i n : Nat} {p : Addr}
/-- a new list of the frame's own -/
theorem Sok.ownNew (ok : Sok K g l s σ) (hp : l.H p = none) (r : RepGL K g l xs us) : Step l ⟨l.al, fun a => l.M a ∨ a = p, upd l.H p (.lst us)⟩ ∧ Sok K g ⟨l.al, fun a => l.M a ∨ a = p, upd l.H p (.lst us)⟩ (setO i xs s) (σ.set i (some (.ref p))) := by
  have st : Step l ⟨l.al, fun a => l.M a ∨ a = p, upd l.H p (.lst us)⟩ := ⟨⟨[], by simp⟩, fun a h => by
      rcases h with h | h
      · exact .inl h
      · exact .inr (by rw [h]; exact hp), fun a o _ h => by show upd l.H p _ a = some o; rw [upd_ne (ne_of_none h hp)]; exact h, fun a h => upd_there h⟩
  have nal : p ∉ l.al := fun z => ok.there p (.inl (ok.alM p z)) hp
  refine ⟨st, by show (s.env.set i _).length = _; rw [List.length_set, List.length_set]; exact ok.len, fun j v h => ?_, fun j zs h => ?_, fun j k zs ws b hn h1 h2 h3 h4 => ?_, ok.mlen, fun m b o h1 h2 => ?_, ok.nd, fun a h => .inl (ok.alM a h), fun b h => ?_, fun b h => ?_, fun x hx => ?_⟩
  rotate_right
  · have ne : tA K x ≠ p := (ok.tabs x hx).ne0 hp
    exact (ok.tabs x hx).to (.inl (ok.tabs x hx).M) (ok.tabs x hx).al (fun ps q => by show upd l.H p _ _ = _; rw [upd_ne ne]; exact q) fun c q n e => st.repL' c _ n e
  · rcases get_set h with ⟨_, e, _⟩ | ⟨e, h⟩
    · cases e
    · obtain ⟨u, h1, h2⟩ := ok.env j v h
      exact ⟨u, by rw [List.getElem?_set_ne (Ne.symm e)]; exact h1, st.rep h2⟩
  · rcases get_set h with ⟨e, e2, hl⟩ | ⟨e, h⟩
    · cases e2
      subst e
      exact ⟨p, us, by rw [List.getElem?_set_self (by rw [← ok.len]; exact hl)], .inr rfl, nal, upd_same, st.reps r⟩
    · obtain ⟨b, ws, h1, h2, h3, h4, h5⟩ := ok.own j zs h
      exact ⟨b, ws, by rw [List.getElem?_set_ne (Ne.symm e)]; exact h1, .inl h2, h3, by show upd l.H p _ b = _; rw [upd_ne (ne_of_none h4 hp)]; exact h4, st.reps h5⟩
  · have key : ∀ (j : Nat) zs, (setO i xs s).env[j]? = some (some (.own zs)) → (σ.set i (some (V.ref p)))[j]? = some (some (.ref b)) → (j = i ∧ b = p) ∨ (j ≠ i ∧ b ≠ p ∧ s.env[j]? = some (some (.own zs)) ∧ σ[j]? = some (some (.ref b))) := by
      intro j zs q1 q2
      rcases get_set q1 with ⟨e, e2, hl⟩ | ⟨e, q1⟩
      · subst e
        rw [List.getElem?_set_self (by rw [← ok.len]; exact hl)] at q2
        cases q2
        exact .inl ⟨rfl, rfl⟩
      · rw [List.getElem?_set_ne (Ne.symm e)] at q2
        obtain ⟨c, ws, h1, _, _, h4, _⟩ := ok.own j zs q1
        rw [q2] at h1
        cases h1
        exact .inr ⟨e, ne_of_none h4 hp, q1, q2⟩
    rcases key j zs h1 h3 with ⟨a1, a2⟩ | ⟨a1, a2, a3, a4⟩
    · rcases key k ws h2 h4 with ⟨b1, b2⟩ | ⟨b1, b2, b3, b4⟩
      · exact hn (a1.trans b1.symm)
      · exact b2 a2
    · rcases key k ws h2 h4 with ⟨b1, b2⟩ | ⟨b1, b2, b3, b4⟩
      · exact a2 b2
      · exact ok.dis j k zs ws b hn a3 b3 a4 b4
  · have h1' : l.al[m]? = some b := h1
    have nb : b ≠ p := fun z => nal (by rw [← z]; exact List.mem_of_getElem? h1')
    have q := ok.mu m b o h1 h2
    cases o with
    | lst zs =>
      obtain ⟨ws, q1, q2⟩ := q
      exact ⟨ws, by show upd l.H p _ b = _; rw [upd_ne nb]; exact q1, st.reps q2⟩
    | ins C ns zs =>
      obtain ⟨dx, ws, q1, q2, q3⟩ := q
      exact ⟨dx, ws, by show upd l.H p _ b = _; rw [upd_ne nb]; exact q1, q2, st.reps q3⟩
    | nst C ns zs =>
      obtain ⟨dx, ws, q1, q2, q3⟩ := q
      exact ⟨dx, ws, by show upd l.H p _ b = _; rw [upd_ne nb]; exact q1, q2, st.reps q3⟩
    | dic ns zs =>
      obtain ⟨ws, q1, q2, q9, q3⟩ := q
      exact ⟨ws, by show upd l.H p _ b = _; rw [upd_ne nb]; exact q1, q2, q9, st.reps q3⟩
  · rcases h with (h | h) | h
    · exact upd_there (ok.there b (.inl h))
    · show upd l.H p _ b ≠ none
      rw [h, upd_same]; simp
    · exact upd_there (ok.there b (.inr h))
  · rcases h with h | h
    · exact ok.mn b h
    · rw [h]
      exact fun z => ok.there p (.inr z) hp
/-- a new shared list -/
theorem Sok.muNew (ok : Sok K g l s σ) (hp : l.H p = none) (r : RepGL K g l xs us) : Step l ⟨l.al ++ [p], fun a => l.M a ∨ a = p, upd l.H p (.lst us)⟩ ∧ Sok K g ⟨l.al ++ [p], fun a => l.M a ∨ a = p, upd l.H p (.lst us)⟩ ⟨s.env, s.mu ++ [.lst xs]⟩ σ := by
  have st : Step l ⟨l.al ++ [p], fun a => l.M a ∨ a = p, upd l.H p (.lst us)⟩ := ⟨⟨[p], rfl⟩, fun a h => by
      rcases h with h | h
      · exact .inl h
      · exact .inr (by rw [h]; exact hp), fun a o _ h => by show upd l.H p _ a = some o; rw [upd_ne (ne_of_none h hp)]; exact h, fun a h => upd_there h⟩
  have nal : p ∉ l.al := fun z => ok.there p (.inl (ok.alM p z)) hp
  refine ⟨st, ok.len, fun j v h => ?_, fun j zs h => ?_, ok.dis, by show (l.al ++ [p]).length = (s.mu ++ [_]).length; rw [List.length_append, List.length_append, ok.mlen]; rfl, fun m b o h1 h2 => ?_, ?_, fun a h => ?_, fun b h => ?_, fun b h => ?_, fun x hx => ?_⟩
  rotate_right
  · have ne : tA K x ≠ p := (ok.tabs x hx).ne0 hp
    exact (ok.tabs x hx).to (.inl (ok.tabs x hx).M) (fun z => by
      rcases List.mem_append.mp z with z | z
      · exact (ok.tabs x hx).al z
      · exact ne (List.mem_singleton.mp z)) (fun ps q => by show upd l.H p _ _ = _; rw [upd_ne ne]; exact q) fun c q n e => st.repL' c _ n e
  · obtain ⟨u, h1, h2⟩ := ok.env j v h
    exact ⟨u, h1, st.rep h2⟩
  · obtain ⟨b, ws, h1, h2, h3, h4, h5⟩ := ok.own j zs h
    have nb : b ≠ p := ne_of_none h4 hp
    exact ⟨b, ws, h1, .inl h2, fun z => by
      rcases List.mem_append.mp z with z | z
      · exact h3 z
      · exact nb (by simpa using z), by show upd l.H p _ b = _; rw [upd_ne nb]; exact h4, st.reps h5⟩
  · have h1' : (l.al ++ [p])[m]? = some b := h1
    have h2' : (s.mu ++ [MO.lst xs])[m]? = some o := h2
    by_cases e : m < l.al.length
    · rw [List.getElem?_append_left e] at h1'
      rw [List.getElem?_append_left (by rw [← ok.mlen]; exact e)] at h2'
      have nb : b ≠ p := fun z => nal (by rw [← z]; exact List.mem_of_getElem? h1')
      have q := ok.mu m b o h1' h2'
      cases o with
      | lst zs =>
        obtain ⟨ws, q1, q2⟩ := q
        exact ⟨ws, by show upd l.H p _ b = _; rw [upd_ne nb]; exact q1, st.reps q2⟩
      | ins C ns zs =>
        obtain ⟨dx, ws, q1, q2, q3⟩ := q
        exact ⟨dx, ws, by show upd l.H p _ b = _; rw [upd_ne nb]; exact q1, q2, st.reps q3⟩
      | nst C ns zs =>
        obtain ⟨dx, ws, q1, q2, q3⟩ := q
        exact ⟨dx, ws, by show upd l.H p _ b = _; rw [upd_ne nb]; exact q1, q2, st.reps q3⟩
      | dic ns zs =>
        obtain ⟨ws, q1, q2, q9, q3⟩ := q
        exact ⟨ws, by show upd l.H p _ b = _; rw [upd_ne nb]; exact q1, q2, q9, st.reps q3⟩
    · by_cases e2 : m = l.al.length
      · subst e2
        rw [List.getElem?_append_right (Nat.le_refl _), Nat.sub_self] at h1'
        rw [ok.mlen, List.getElem?_append_right (Nat.le_refl _), Nat.sub_self] at h2'
        cases h1'
        cases h2'
        exact ⟨us, upd_same, st.reps r⟩
      · rw [List.getElem?_eq_none (by rw [List.length_append]; show l.al.length + 1 ≤ m; omega)] at h1'
        cases h1'
  · refine List.nodup_append.mpr ⟨ok.nd, by simp, fun a ha b hb => ?_⟩
    rw [List.mem_singleton] at hb
    rw [hb]
    exact fun z => nal (by rw [← z]; exact ha)
  · rcases List.mem_append.mp h with h | h
    · exact .inl (ok.alM a h)
    · exact .inr (by simpa using h)
  · rcases h with (h | h) | h
    · exact upd_there (ok.there b (.inl h))
    · show upd l.H p _ b ≠ none
      rw [h, upd_same]; simp
    · exact upd_there (ok.there b (.inr h))
  · rcases h with h | h
    · exact ok.mn b h
    · rw [h]
      exact fun z => ok.there p (.inr z) hp
end
section
variable {X : Cx} {g : Gx} {a b c e tg iter elt : Expr} {es ifs : List Expr} {da db dc de : DE} {dr : DA} {dl : DL} {pos : Pos}
theorem j_new (h : JF X g e dl) : JE X g e (dNewF dl) := PE.cq h fun pins s σ H Q I q => by
  obtain ⟨l, s, rfl, ok, q⟩ := q
  refine ⟨l, s, rfl, ok, ?_⟩
  simp only [dNewF] at q
  cases e1 : dl s with
  | bad => rw [e1] at q; exact q
  | exn e t => rw [e1] at q; exact q
  | ok xs t =>
    rw [e1] at q
    intro l1 us p st1 ok1 r1 hp
    obtain ⟨st2, ok2⟩ := ok1.muNew hp r1
    exact q _ _ (st1.trans st2) ok2 ⟨p, by rw [← ok1.mlen]; simp, rfl⟩
theorem own_reads {i : Nat} {D : Ends} {σ : St} {H : Hp} (q : LS X.K g (dOwn i dl) D σ H) : LF X.K g dl σ H (fun x H1 => D.nx (σ.set i (some x)) H1) := by
  obtain ⟨l, s, rfl, ok, q⟩ := q
  refine ⟨l, s, rfl, ok, ?_⟩
  simp only [dOwn] at q
  cases e : dl s with
  | bad => rw [e] at q; exact q
  | exn e t => rw [e] at q; exact fun l' c d => q l' σ c d
  | ok xs t =>
    rw [e] at q
    intro l1 us p st1 ok1 r1 hp
    obtain ⟨st2, ok2⟩ := ok1.ownNew (i := i) hp r1
    exact q _ _ (st1.trans st2) ok2
theorem js_own {i : Nat} {x : Str} {pos' : Pos} (hN : X.N.Nodup) (he : JF X g e dl) (hi : X.N[i]? = some x := by rfl) (hx : Loc X.env.scope x := by first | exact Or.inl rfl | exact Or.inr rfl) (hs : swapsWith e (some (.Name x pos')) pos.line X.env = pure false := by rfl)
    (hf : X.fn x = true ∨ X.env.scope.names.lookup x = some .local := by first | exact .inl rfl | exact .inr rfl) : JS X g (.Assign [.Name x pos'] e pos) (dOwn i dl) := PS.cq (ps_set hN hi hx he hs hf) fun pins s D σ H I q => own_reads q
/-- x.append(e) -/
theorem j_app {i : Nat} {x : Str} {px apos : Pos} (he : JE X g e de) (hN : X.N[i]? = some x := by rfl) (hv : Vis X.env.scope x := by first | exact Or.inl rfl | exact Or.inr (Or.inl rfl) | exact Or.inr (Or.inr rfl))
    (hbase : attributeBase (.Name x px) "append" X.env (eval (.Name x px) X.env) = eval (.Name x px) X.env := by rfl)
    (hfew : ((backTo pos (starEach (e :: []) X.env)).all (fun x => !x.1) && (backToKw pos (keywordEach [] X.env)).all (fun x => x.1.isSome)
      && decide ((e :: []).length + ([] : List Keyword).length + (if ([] : List Keyword).isEmpty then 0 else 1) < 30)) = true := by rfl)
    (hline : (apos.endLine == pos.line) = true := by rfl) (hs : starEach (e :: []) X.env = (false, eval e X.env) :: starEach [] X.env := by rfl) (hplain : (backTo pos (starEach [] X.env)).any (·.1) = false := by rfl)
    (hd : (x == ("__debug__" : Str)) = false := by decide) (hcd : (x == ("__classdict__" : Str)) = false := by decide) : JE X g (.Call (.Attribute (.Name x px) "append" apos) [e] [] pos) (dApp i de) :=
  PE.cq (pe_bm PySem.F.plainAttrs_list PySem.F.slot_list_append PySem.F.type_list_append mt_append (pe_var (i := i) hN hv hd hcd) (pa_cons he pa_nil hs) hbase hfew hline hs hplain) fun pins s σ H Q I q => by
    obtain ⟨l, s, rfl, ok, q⟩ := q
    simp only [dApp] at q
    cases e0 : lstAt i s with
    | none => rw [e0] at q; exact q.elim
    | some z =>
      rw [e0] at q
      obtain ⟨xs0, k0⟩ := z
      obtain ⟨a0, vs0, h1, h2, h3, h4, _⟩ := ok.lst e0
      refine ⟨.ref a0, h1, .inl ⟨rfl, vs0, SqL.of h3⟩, l, s, rfl, ok, Run.mono (Run.bind q) fun u H1 ⟨l1, s1, v, e1, ok1, r1, st1, h5⟩ => ?_⟩
      subst e1
      cases e6 : lstAt i s1 with
      | none => rw [e6] at h5; exact h5.elim
      | some z =>
        obtain ⟨xs, k⟩ := z
        rw [e6] at h5
        simp only at h5
        obtain ⟨a1, vs, g1, g2, g3, g4, g5⟩ := ok1.lst e6
        rw [h1] at g1
        cases g1
        by_cases hz : xs.length < 16777216
        · rw [if_pos hz] at h5
          have r : RepGL X.K g l1 [v] [u] := ⟨u, [], rfl, r1, rfl⟩
          exact ⟨a0, vs, u, rfl, rfl, g3, by rw [line_eq, ← g4.length]; exact hz, h5 ⟨l1.al, l1.M, upd l1.H a0 (.lst (vs ++ [u]))⟩ _ (Step.at_ g2 _) (g5 _ _ (g4.append r)) rfl⟩
        · rw [if_neg hz] at h5
          exact h5.elim
theorem ixN_bounds {n m : Nat} {j : Int} (h : ixN n j = some m) (hn : n ≤ 16777216) : -(2 ^ 63) ≤ j ∧ j < 2 ^ 63 ∧ seqIndex? j n = some m := by
  obtain ⟨h1, h2, h3, h4⟩ := ixN_seq h
  exact ⟨by omega, by omega, h1⟩
/-- x.pop(e) -/
theorem j_popAt {i : Nat} {x : Str} {px apos : Pos} (he : JE X g e de) (hN : X.N[i]? = some x := by rfl) (hv : Vis X.env.scope x := by first | exact Or.inl rfl | exact Or.inr (Or.inl rfl) | exact Or.inr (Or.inr rfl))
    (hbase : attributeBase (.Name x px) "pop" X.env (eval (.Name x px) X.env) = eval (.Name x px) X.env := by rfl)
    (hfew : ((backTo pos (starEach (e :: []) X.env)).all (fun x => !x.1) && (backToKw pos (keywordEach [] X.env)).all (fun x => x.1.isSome)
      && decide ((e :: []).length + ([] : List Keyword).length + (if ([] : List Keyword).isEmpty then 0 else 1) < 30)) = true := by rfl)
    (hline : (apos.endLine == pos.line) = true := by rfl) (hs : starEach (e :: []) X.env = (false, eval e X.env) :: starEach [] X.env := by rfl) (hplain : (backTo pos (starEach [] X.env)).any (·.1) = false := by rfl)
    (hd : (x == ("__debug__" : Str)) = false := by decide) (hcd : (x == ("__classdict__" : Str)) = false := by decide) : JE X g (.Call (.Attribute (.Name x px) "pop" apos) [e] [] pos) (dPopAt i de) :=
  PE.cq (pe_bm PySem.F.plainAttrs_list PySem.F.slot_list_pop PySem.F.type_list_pop mt_popAt (pe_var (i := i) hN hv hd hcd) (pa_cons he pa_nil hs) hbase hfew hline hs hplain) fun pins s σ H Q I q => by
    obtain ⟨l, s, rfl, ok, q⟩ := q
    simp only [dPopAt] at q
    cases e0 : lstAt i s with
    | none => rw [e0] at q; exact q.elim
    | some z =>
      rw [e0] at q
      obtain ⟨xs0, k0⟩ := z
      obtain ⟨a0, vs0, h1, h2, h3, h4, _⟩ := ok.lst e0
      refine ⟨.ref a0, h1, .inl ⟨rfl, vs0, SqL.of h3⟩, l, s, rfl, ok, Run.mono (Run.bind q) fun u H1 ⟨l1, s1, v, e1, ok1, r1, st1, h5⟩ => ?_⟩
      subst e1
      cases v with
      | int j =>
        cases (show u = .int j from r1)
        cases e6 : lstAt i s1 with
        | none => rw [e6] at h5; exact h5.elim
        | some z =>
          obtain ⟨xs, k⟩ := z
          rw [e6] at h5
          simp only at h5
          obtain ⟨a1, vs, g1, g2, g3, g4, g5⟩ := ok1.lst e6
          rw [h1] at g1
          cases g1
          cases e7 : ixN xs.length j with
          | none => rw [e7] at h5; exact h5.elim
          | some m =>
            rw [e7] at h5
            simp only at h5
            cases e8 : xs[m]? with
            | none => rw [e8] at h5; exact h5.elim
            | some y =>
              rw [e8] at h5
              simp only at h5
              obtain ⟨w, hw, rw'⟩ := g4.get e8
              by_cases hz : xs.length ≤ 16777216
              · rw [if_pos hz] at h5
                obtain ⟨b1, b2, b3⟩ := ixN_bounds e7 hz
                rw [g4.length] at b3
                exact ⟨a0, vs, j, m, w, rfl, rfl, g3, b1, b2, b3, hw, h5 ⟨l1.al, l1.M, upd l1.H a0 (.lst (vs.eraseIdx m))⟩ _ (Step.at_ g2 _) (g5 _ _ (g4.eraseIdx m)) ((Step.at_ g2 _).rep rw')⟩
              · rw [if_neg hz] at h5
                exact h5.elim
      | _ => exact h5.elim
/-- x[j] = e -/
theorem js_put {i : Nat} {x : Str} {px tpos : Pos} {di : DE} (he : JE X g e de) (hi : JE X g a di) (hN : X.N[i]? = some x := by rfl) (hv : Vis X.env.scope x := by first | exact Or.inl rfl | exact Or.inr (Or.inl rfl) | exact Or.inr (Or.inr rfl))
    (ha : ∀ v, assign (.Subscript (.Name x px) a tpos) X.env v = (do
      let ov ← holding [v] (eval (.Name x px) X.env)
      let iv ← holding [v, ov] (eval a X.env)
      standAt tpos
      holding [v, ov, iv] (setItem ov iv v)
      release [v, ov, iv] []) := by intro _; rfl)
    (hs : swapsWithSole [.Subscript (.Name x px) a tpos] e pos.line X.env = pure false := by rfl) (hw : swappedStores [.Subscript (.Name x px) a tpos] e X.env = pure none := by rfl)
    (h1 : (assignEach [.Subscript (.Name x px) a tpos] X.env).map (·.2) = [assign (.Subscript (.Name x px) a tpos) X.env] := by rfl)
    (hd : (x == ("__debug__" : Str)) = false := by decide) (hcd : (x == ("__classdict__" : Str)) = false := by decide) : JS X g (.Assign [.Subscript (.Name x px) a tpos] e pos) (dPut i de di) :=
  PS.cq (ps_asg he (pg_sub (pe_var (i := i) hN hv hd hcd) hi set_list ha) hs hw h1) fun pins s D σ H I q => by
    obtain ⟨l, s, rfl, ok, q⟩ := q
    simp only [dPut] at q
    refine ⟨l, s, rfl, ok, Run.mono (Run.bindS q) fun u H1 ⟨l1, s1, v, e1, ok1, r1, st1, h5⟩ => ?_⟩
    subst e1
    cases e0 : lstAt i s1 with
    | none => rw [e0] at h5; exact h5.elim
    | some z =>
      rw [e0] at h5
      obtain ⟨xs0, k0⟩ := z
      obtain ⟨a0, vs0, h1, h2, h3, h4, _⟩ := ok1.lst e0
      refine ⟨.ref a0, h1, l1, s1, rfl, ok1, Run.mono (Run.bindS h5) fun w H2 ⟨l2, s2, j, e2, ok2, r2, st2, h6⟩ => ?_⟩
      subst e2
      cases j with
      | int j =>
        cases (show w = .int j from r2)
        cases e6 : lstAt i s2 with
        | none => rw [e6] at h6; exact h6.elim
        | some z =>
          obtain ⟨xs, k⟩ := z
          rw [e6] at h6
          simp only at h6
          obtain ⟨a1, vs, g1, g2, g3, g4, g5⟩ := ok2.lst e6
          rw [h1] at g1
          cases g1
          cases e7 : ixN xs.length j with
          | none => rw [e7] at h6; exact h6.elim
          | some m =>
            rw [e7] at h6
            rw [g4.length] at e7
            exact ⟨a0, vs, j, m, rfl, rfl, g3, e7, h6 ⟨l2.al, l2.M, upd l2.H a0 (.lst (vs.set m u))⟩ _ (Step.at_ g2 _) (g5 _ _ (RepL.set (st2.rep r1) m g4))⟩
      | _ => exact h6.elim
end
end L3
namespace L3
open PySem PySem.Spec PyProof.Rows L2
/-- room, and no guard on the stack -/
structure Room (k : Nat) (A : Around) : Prop where
  rm : L2.Room k A
  gd : A.guards = some []
theorem Room.un {k : Nat} {A : Around} (r : Room k A) : A.units + 16 * k + 200 < cLine := r.rm.un
theorem Room.hd {k : Nat} {A : Around} (r : Room k A) : A.handled = none := r.rm.hd
theorem Room.mono {j k : Nat} {A : Around} (r : Room k A) (h : j ≤ k) : Room j A := ⟨r.rm.mono h, r.gd⟩
theorem Room.deeper {k : Nat} {A : Around} (r : Room (k + 1) A) (env : Env) : Room k (A.deeper env) := ⟨r.rm.deeper env, r.gd⟩
theorem Room.in1 {k : Nat} {A : Around} (r : Room (k + 1) A) : Room k A.in1 := ⟨r.rm.in1, r.gd⟩
theorem guards_make {A : Around} {C : Addr} {us : List Value} {kw : List (Str × Value)} (h : A.guards = some []) : (A.under (.builtin "type.__call__" ⟨.ref C :: us, kw⟩)).guards = some [] := by
  have e : (A.under (.builtin "type.__call__" ⟨.ref C :: us, kw⟩)).guards = pushGuards (Code.builtin "type.__call__" ⟨.ref C :: us, kw⟩).guards A.guards := rfl
  rw [e, h]
  have g : (Code.builtin "type.__call__" ⟨.ref C :: us, kw⟩).isGuard = false := by simp [Code.isGuard, guardIds]
  simp [Code.guards, g, pushGuards]
theorem Room.make {k : Nat} {A : Around} (r : Room (k + 1) A) (C : Addr) (us : List Value) (kw : List (Str × Value)) : Room k (A.under (.builtin "type.__call__" ⟨.ref C :: us, kw⟩)) := ⟨r.rm.make C us kw, guards_make r.gd⟩
theorem Room.units {k : Nat} {A : Around} (r : Room k A) : A.units + 64 < cLine := r.rm.units
structure Sub (X : Cx) (n : Nat) (A : Around) : Prop where
  room : Room n A
  fr : A.frames = X.A.frames
theorem Sub.in1 {X : Cx} {n : Nat} {A : Around} (s : Sub X (n + 1) A) : Sub X n A.in1 := ⟨s.room.in1, s.fr⟩
theorem Sub.mono {X : Cx} {n m : Nat} {A : Around} (s : Sub X n A) (h : m ≤ n) : Sub X m A := ⟨s.room.mono h, s.fr⟩
/-- a def's promise, called where nothing guards -/
structure FnG (P : Program) (w : World) (K : PySem.W.Frag) (mg : Str → Option Value) (base : Heap) (CX : CXT) (k : Nat) (f : Addr) (fd : FuncData) (ps : List Str) (sp : Sp) : Prop where
  len : ∀ vs H Q E, sp vs H Q E → vs.length = ps.length
  run : ∀ (A : Around) (outer : List Env) (s : Shared) (H : Hp) (args : Args) (us : List Value) (vs : List V) (Q : VK) (E : XK), Room k A → Env0 P w K mg base A outer s H → BindsTo s fd args (ps.zip us) → Vals vs us →
    sp vs H Q E → codeAny (model P w) A (.call (.ref f) args) (CR CX outer P w H s Q E) s
theorem FnG.mono {P : Program} {w : World} {K : PySem.W.Frag} {mg : Str → Option Value} {base : Heap} {CX : CXT} {j k : Nat} {f : Addr} {fd : FuncData} {ps : List Str} {sp : Sp} (F : FnG P w K mg base CX j f fd ps sp) (h : j ≤ k) :
    FnG P w K mg base CX k f fd ps sp where
  len := F.len
  run := fun A outer s H args us vs Q E hr => F.run A outer s H args us vs Q E (hr.mono h)
theorem FnG.imp {P : Program} {w : World} {K : PySem.W.Frag} {mg : Str → Option Value} {base : Heap} {CX : CXT} {k : Nat} {f : Addr} {fd : FuncData} {ps : List Str} {sp sp' : Sp} (F : FnG P w K mg base CX k f fd ps sp)
    (h : ∀ vs H Q E, sp' vs H Q E → sp vs H Q E) : FnG P w K mg base CX k f fd ps sp' where
  len := fun vs H Q E q => F.len vs H Q E (h _ _ _ _ q)
  run := fun A outer s H args us vs Q E hr he hb hv hs => F.run A outer s H args us vs Q E hr he hb hv (h _ _ _ _ hs)
/-- where the def's code object stands -/
def CodeAt (K : PySem.W.Frag) (f : Addr) (cdv : Value) (q : Str) : Prop := (∃ (oc : Value) (od : Option Addr) (fd : FuncData) (osl : Array (Option Value)), K.lookup f = some ⟨oc, od, .func fd, osl⟩ ∧ fd.code = cdv) ∧ PySem.W.codeIn K cdv q = true
/-- a def called at one place -/
theorem fn_run {P : Program} {w : World} {K : PySem.W.Frag} {mg : Str → Option Value} {base : Heap} {CX : CXT} {x qual : Str} {params : Arguments} {body : List Stmt} {scope : Scope} {dvs : List V} {kws : List (Str × V)} {f : Addr} {fd : FuncData} {N ps : List Str} {k : Nat}
    {A : Around} {outer : List Env} {s : Shared} {H : Hp} {args : Args} {us : List Value} {vs : List V} {Q : VK} {E : XK} (F : FunD K x qual params body scope dvs kws f fd) (S : FnScope N ps scope) (hr : Room (k + 1) A) (e0 : Env0 P w K mg base A outer s H) (hb : BindsTo s fd args (ps.zip us)) (r : Vals vs us) (hl : vs.length = ps.length)
    (hbody : ∀ (cdv : Value), CodeAt K f cdv qual → Room k (A.deeper (envOfC qual scope s.heap.objs.size f cdv)) → ∃ t, PSs (cxOf CX P w K mg base N qual scope f cdv A outer s H E) body t ∧ t { nx := fun _ H' => Q .non H', rt := Q } (start N vs) H) :
    codeAny (model P w) A (.call (.ref f) args) (CR CX outer P w H s Q E) s := by
  obtain ⟨oc, od, dV, kV, doc, pm, an, cdv, ct, osl, rfl, lk, hcd, _, _⟩ := F.ex
  have KX : K.In s.heap := e0.mod.kin.keeps fun b o e => (e0.bs b o e).1
  refine codeAny_call_function hr.rm.depth (KX _ _ lk) rfl S.co S.gen rfl (PySem.W.codeRec_of KX hcd) (hb _ _ _ _ ?_)
  have hk : ∀ y ∈ ps.zip us, scope.names.lookup y.1 = some .local ∨ (scope.names.lookup y.1 = some .cell ∧ ((cellsFrom (s.heap.objs.size + 1) scope.names []).lookup y.1).isSome = true) := by
    rintro ⟨n, v⟩ hy
    exact (S.par n (List.of_mem_zip hy).1).imp id fun q => ⟨q, PySem.W.cellsFrom_some _ _ _ (.inl q)⟩
  refine wpAny_newFunctionEnv_cells S.kind hk fun env he s1 x => ?_
  cases he
  refine ⟨(e0.mod.nolimit.keeps fun b o e => (e0.bs b o e).1).keeps x.toInCall.keep, codeAny_func ?_⟩
  obtain ⟨t, ht, hq⟩ := hbody cdv ⟨⟨oc, od, _, osl, lk, rfl⟩, hcd⟩ (hr.deeper _)
  have I := inv_start (CX := CX) (E := E) S hr.hd e0 hl r x
  refine wpAny_mono (ht.run [] s1 (start N vs) H _ I hq) (fun fl s' hs => ?_) fun _ _ z => z
  match fl, hs with
  | .ret u, ⟨v, σ', H', J, rv, q⟩ => exact ⟨v, H', J.os, J.bare, J.base, J.hok, rv, q⟩
  | .next, ⟨σ', H', J, q⟩ => exact ⟨.non, H', J.os, J.bare, J.base, J.hok, rfl, q⟩
  | .brk, ⟨_, _, _, q⟩ => exact q.elim
  | .cont, ⟨_, _, _, q⟩ => exact q.elim
/-- from a promise that asks for room alone, at one place -/
theorem fnG_ofC {P : Program} {w : World} {K : PySem.W.Frag} {mg : Str → Option Value} {base : Heap} {CX : CXT} {x qual : Str} {params : Arguments} {body : List Stmt} {scope : Scope} {dvs : List V} {kws : List (Str × V)} {f : Addr} {fd : FuncData} {N ps : List Str} {k : Nat} {sp : Sp}
    (F : FunD K x qual params body scope dvs kws f fd) (S : FnScope N ps scope) (len : ∀ vs H Q E, sp vs H Q E → vs.length = ps.length)
    (hbody : ∀ (cdv : Value) (_ : CodeAt K f cdv qual) (A : Around) (outer : List Env) (s : Shared) (H : Hp) (vs : List V) (Q : VK) (E : XK), Room k (A.deeper (envOfC qual scope s.heap.objs.size f cdv)) → sp vs H Q E →
      ∃ t, PSs (cxOf CX P w K mg base N qual scope f cdv A outer s H E) body t ∧ t { nx := fun _ H' => Q .non H', rt := Q } (start N vs) H) : FnG P w K mg base CX (k + 1) f fd ps sp where
  len := len
  run := fun A outer s H args us vs Q E hr e0 hb r hsp => fn_run F S hr e0 hb r (len _ _ _ _ hsp) fun cdv hc hr' => hbody cdv hc A outer s H vs Q E hr' hsp
theorem fnG_of {P : Program} {w : World} {K : PySem.W.Frag} {mg : Str → Option Value} {base : Heap} {CX : CXT} {x qual : Str} {params : Arguments} {body : List Stmt} {scope : Scope} {dvs : List V} {kws : List (Str × V)} {f : Addr} {fd : FuncData} {N ps : List Str} {k : Nat} {sp : Sp}
    (F : FunD K x qual params body scope dvs kws f fd) (S : FnScope N ps scope) (len : ∀ vs H Q E, sp vs H Q E → vs.length = ps.length)
    (hbody : ∀ (cdv : Value) (A : Around) (outer : List Env) (s : Shared) (H : Hp) (vs : List V) (Q : VK) (E : XK), Room k (A.deeper (envOfC qual scope s.heap.objs.size f cdv)) → sp vs H Q E →
      ∃ t, PSs (cxOf CX P w K mg base N qual scope f cdv A outer s H E) body t ∧ t { nx := fun _ H' => Q .non H', rt := Q } (start N vs) H) : FnG P w K mg base CX (k + 1) f fd ps sp := fnG_ofC F S len fun cdv _ => hbody cdv
/-- a table of code objects -/
def IsT (K : PySem.W.Frag) (a : Addr) : Prop := ∃ x ∈ TK K, a = tA K x
theorem Sok.inM {K : PySem.W.Frag} {g : Gx} {l : Lc} {s : S} {σ : St} (ok : Sok K g l s σ) {a : Addr} (h : a ∈ l.al ∨ IsT K a) : l.M a := h.elim (ok.alM a) fun ⟨x, hx, e⟩ => by rw [e]; exact (ok.tabs x hx).M
theorem Sok.noT {K : PySem.W.Frag} {g : Gx} {l : Lc} {s : S} {σ : St} (ok : Sok K g l s σ) {a : Addr} {o : HO} (e : l.H a = some o) (n : ∀ ps, o ≠ .tbl ps) : ¬ IsT K a := fun ⟨x, hx, z⟩ => (ok.tabs x hx).ne e n z.symm
/-- the state at a call -/
structure Fok (K : PySem.W.Frag) (CR : Addr) (N : Addr → Prop) (l : Lc) (mu : List MO) : Prop where
  iff : ∀ a, l.M a ↔ a ∈ l.al ∨ IsT K a
  ok : Sok K ⟨CR, N, W0⟩ l ⟨[], mu⟩ []
/-- a promise: what F says -/
def spJ (K : PySem.W.Frag) (CR : Addr) (n : Nat) (F : DF) : Sp := fun vs H Q E => ∃ (N : Addr → Prop) (l : Lc) (ps : List PV) (mu : List MO), l.H = H ∧ Fok K CR N l mu ∧ RepGL K ⟨CR, N, W0⟩ l ps vs ∧ ps.length = n ∧ match F ps mu with
  | .ok v mu' => ∀ l' u, Step l l' → Fok K CR N l' mu' → RepG K ⟨CR, N, W0⟩ l' v u → Q u l'.H
  | .exn e mu' => ∀ l' cls dd, Step l l' → Fok K CR N l' mu' → RepX K ⟨CR, N, W0⟩ l' e cls dd → E cls dd l'.H
  | .bad => False
abbrev FJ (P : Program) (w : World) (K : PySem.W.Frag) (mg : Str → Option Value) (base : Heap) (CR : Addr) (k : Nat) (f : Addr) (fd : FuncData) (ps : List Str) (F : DF) : Prop := FnG P w K mg base (L2.CX P w) k f fd ps (spJ K CR ps.length F)
/-- F' says no more than F -/
def Below (n : Nat) (F' F : DF) : Prop := ∀ ps mu, ps.length = n → F' ps mu = .bad ∨ F ps mu = F' ps mu
theorem FJ.imp {P : Program} {w : World} {K : PySem.W.Frag} {mg : Str → Option Value} {base : Heap} {CR : Addr} {k : Nat} {f : Addr} {fd : FuncData} {ps : List Str} {F F' : DF} (h : FJ P w K mg base CR k f fd ps F) (b : Below ps.length F' F) : FJ P w K mg base CR k f fd ps F' :=
  FnG.imp h fun vs H Q E q => by
    obtain ⟨N, l, qs, mu, e, ok, r, hl, q⟩ := q
    refine ⟨N, l, qs, mu, e, ok, r, hl, ?_⟩
    rcases b qs mu hl with z | z
    · rw [z] at q; exact q.elim
    · rw [z]; exact q
def runBody (n : Nat) (d : DS) : DF := fun ps mu => match d ⟨ps.map (fun p => some (.val p)) ++ List.replicate (n - ps.length) none, mu⟩ with
  | .ok (.rt v) s => .ok v s.mu
  | .ok .nx s => .ok .non s.mu
  | .ok _ _ => .bad
  | .exn e s => .exn e s.mu
  | .bad => .bad
theorem Sok.frame {K : PySem.W.Frag} {g g' : Gx} {l : Lc} {s : S} {σ : St} (ok : Sok K g l s σ) (ec : g'.CR = g.CR) (eN : g'.N = g.N) : Sok K g' l s σ := by
  obtain ⟨CR, N, W⟩ := g
  obtain ⟨CR', N', W'⟩ := g'
  cases ec
  cases eN
  exact ⟨ok.len, ok.env, ok.own, ok.dis, ok.mlen, fun n a m h1 h2 => by
    have q := ok.mu n a m h1 h2
    cases m <;> exact q, ok.nd, ok.alM, ok.there, ok.mn, fun x hx => (ok.tabs x hx).same rfl⟩
/-- the shared objects alone -/
theorem Sok.toF {K : PySem.W.Frag} {g : Gx} {l : Lc} {s : S} {σ : St} {N' : Addr → Prop} (ok : Sok K g l s σ) (hN : ∀ a, N' a → l.M a ∨ g.N a) (hN2 : ∀ a, a ∈ l.al ∨ IsT K a → ¬ N' a) : Fok K g.CR N' ⟨l.al, fun a => a ∈ l.al ∨ IsT K a, l.H⟩ s.mu := by
  have hL : ∀ a, ¬ g.L l a → ¬ Gx.L ⟨g.CR, N', W0⟩ ⟨l.al, fun a => a ∈ l.al ∨ IsT K a, l.H⟩ a := fun a n z => by
    rcases z with z | z
    · exact n (.inl (ok.inM z))
    · exact n (hN a z)
  have rp : ∀ x v, RepGL K g l x v → RepGL K ⟨g.CR, N', W0⟩ ⟨l.al, fun a => a ∈ l.al ∨ IsT K a, l.H⟩ x v := fun x v h => RepL.mono (fun _ _ h => h) (fun a o n e => ⟨e, hL a n⟩) x v h
  refine ⟨fun a => Iff.rfl, rfl, fun i v e => by simp at e, fun i v e => by simp at e, fun i j xs ys a _ e => by simp at e, ok.mlen, fun n a m h1 h2 => ?_, ok.nd, fun a h => .inl h, fun a h => ?_, hN2, fun x hx => (ok.tabs x hx).to (.inr ⟨x, hx, rfl⟩) (ok.tabs x hx).al (fun _ q => q) fun c q n e => ⟨e, hL c n⟩⟩
  · have q := ok.mu n a m h1 h2
    cases m with
    | lst xs => obtain ⟨vs, q1, q2⟩ := q; exact ⟨vs, q1, rp _ _ q2⟩
    | ins C ns xs => obtain ⟨dx, vs, q1, q2, q3⟩ := q; exact ⟨dx, vs, q1, q2, rp _ _ q3⟩
    | nst C ns xs => obtain ⟨dx, vs, q1, q2, q3⟩ := q; exact ⟨dx, vs, q1, q2, rp _ _ q3⟩
    | dic ns xs => obtain ⟨vs, q1, q2, q9, q3⟩ := q; exact ⟨vs, q1, q2, q9, rp _ _ q3⟩
  · rcases h with h | h
    · exact ok.there a (.inl (ok.inM h))
    · exact ok.there a (hN a h)
theorem length_start {N : List Str} {vs : List V} (h : vs.length ≤ N.length) : (L2.start N vs).length = N.length := by
  unfold L2.start
  rw [List.length_append, List.length_map, List.length_replicate]
  omega
/-- a body, from what the promise says -/
theorem body_asks {P : Program} {w : World} {K : PySem.W.Frag} {mg : Str → Option Value} {base : Heap} {CR : Addr} {qual : Str} {body : List Stmt} {scope : Scope} {f : Addr} {N ps : List Str} {d : DS} {cdv : Value} {A : Around} {outer : List Env} {s : Shared} {H : Hp} {E : XK} {vs : List V} {Q : VK} (S : FnScope N ps scope)
    (hb : ∀ (Nn : Addr → Prop), JSs (cxOf (L2.CX P w) P w K mg base N qual scope f cdv A outer s H E) ⟨CR, Nn, fun c dd _ H => E c dd H⟩ body d) (h : spJ K CR ps.length (runBody N.length d) vs H Q E) :
    ∃ t, PSs (cxOf (L2.CX P w) P w K mg base N qual scope f cdv A outer s H E) body t ∧ t { nx := fun _ H' => Q .non H', rt := Q } (L2.start N vs) H := by
  have hps : ps.length ≤ N.length := by
    have := congrArg List.length S.pre
    rw [List.length_take] at this
    omega
  obtain ⟨Nn, l, qs, mu, rfl, ok, r, hl, q⟩ := h
  refine ⟨_, hb Nn, l, ⟨qs.map (fun p => some (.val p)) ++ List.replicate (N.length - qs.length) none, mu⟩, rfl, ?_, ?_⟩
  · have hv : vs.length = ps.length := by rw [← r.length]; exact hl
    have e1 : ∀ (i : Nat) sv, (qs.map (fun p => some (SV.val p)) ++ List.replicate (N.length - qs.length) none)[i]? = some (some sv) → ∃ p, qs[i]? = some p ∧ sv = .val p := by
      intro i sv e
      by_cases h : i < qs.length
      · rw [List.getElem?_append_left (by rw [List.length_map]; exact h), List.getElem?_map] at e
        cases e2 : qs[i]? with
        | none => rw [e2] at e; cases e
        | some p => rw [e2] at e; cases e; exact ⟨p, rfl, rfl⟩
      · rw [List.getElem?_append_right (by rw [List.length_map]; omega), List.getElem?_replicate] at e
        split at e <;> cases e
    refine ⟨?_, fun i v e => ?_, fun i v e => ?_, fun i j xs ys a _ e => ?_, ok.ok.mlen, fun n a m h1 h2 => ?_, ok.ok.nd, ok.ok.alM, ok.ok.there, ok.ok.mn, fun x hx => (ok.ok.tabs x hx).same rfl⟩
    · rw [length_start (by omega)]
      show (qs.map (fun p => some (SV.val p)) ++ List.replicate (N.length - qs.length) none).length = _
      rw [List.length_append, List.length_map, List.length_replicate]
      omega
    · obtain ⟨p, h1, h2⟩ := e1 i _ e
      cases h2
      obtain ⟨u, h3, h4⟩ := r.get h1
      refine ⟨u, ?_, h4⟩
      unfold L2.start
      rw [List.getElem?_append_left (by rw [List.length_map]; exact (List.getElem?_eq_some_iff.mp h3).1), List.getElem?_map, h3] <;> rfl
    · obtain ⟨p, h1, h2⟩ := e1 i _ e
      cases h2
    · obtain ⟨p, h1, h2⟩ := e1 i _ e
      cases h2
    · have q := ok.ok.mu n a m h1 h2
      cases m <;> exact q
  · -- the end
    have fin : ∀ {l' : Lc} {s' : L3.S} {σ' : St} {v : PV} {u : V}, Step l l' → Sok K ⟨CR, Nn, fun c dd _ H => E c dd H⟩ l' s' σ' → RepG K ⟨CR, Nn, W0⟩ l' v u →
        Step l ⟨l'.al, fun a => a ∈ l'.al ∨ IsT K a, l'.H⟩ ∧ Fok K CR Nn ⟨l'.al, fun a => a ∈ l'.al ∨ IsT K a, l'.H⟩ s'.mu ∧ RepG K ⟨CR, Nn, W0⟩ ⟨l'.al, fun a => a ∈ l'.al ∨ IsT K a, l'.H⟩ v u := by
      intro l' s' σ' v u st ok' rv
      refine ⟨⟨st.pre, fun a h => st.new a (ok'.inM h), st.keep, st.dom⟩, Sok.toF ok' (fun a h => .inr h) (fun a h => ok'.mn a (ok'.inM h)), Rep.mono (fun _ _ h => h) (fun a o n e => ⟨e, fun z => by
        rcases z with z | z
        · exact n (.inl (ok'.inM z))
        · exact n (.inr z)⟩) v u rv⟩
    unfold runBody at q
    cases e : d ⟨qs.map (fun p => some (.val p)) ++ List.replicate (N.length - qs.length) none, mu⟩ with
    | bad => rw [e] at q; exact q
    | exn ex t =>
      rw [e] at q
      intro l' σ' cls dd st ok' rx
      obtain ⟨f1, f2, _⟩ := fin (v := .non) (u := .non) st ok' rfl
      refine q ⟨l'.al, fun a => a ∈ l'.al ∨ IsT K a, l'.H⟩ cls dd f1 f2 ?_
      obtain ⟨C, ns, xs, us, h1, h2, h3, h4, h5⟩ := rx
      refine ⟨C, ns, xs, us, h1, h2, h3, RepL.mono (fun _ _ h => h) (fun a o n e => ⟨e, fun z => by
        rcases z with z | z
        · exact n (.inl (ok'.inM z))
        · exact n (.inr z)⟩) _ _ h4, ?_⟩
      rcases h5 with h5 | ⟨d', h5, h6, h7⟩
      · exact .inl h5
      · exact .inr ⟨d', h5, fun z => h6 (by
          rcases z with z | z
          · exact .inl (ok'.inM z)
          · exact .inr z), h7⟩
    | ok fl t =>
      rw [e] at q
      cases fl with
      | nx =>
        intro l' σ' st ok'
        obtain ⟨f1, f2, f3⟩ := fin (v := .non) (u := .non) st ok' rfl
        exact q ⟨l'.al, fun a => a ∈ l'.al ∨ IsT K a, l'.H⟩ .non f1 f2 f3
      | rt v =>
        intro l' σ' u st ok' rv
        obtain ⟨f1, f2, f3⟩ := fin st ok' rv
        exact q ⟨l'.al, fun a => a ∈ l'.al ∨ IsT K a, l'.H⟩ u f1 f2 f3
      | bk => exact (show False from q).elim
      | ct => exact (show False from q).elim
/-- THE RULE for a def: what its body computes -/
theorem jf_fnC {P : Program} {w : World} {K : PySem.W.Frag} {mg : Str → Option Value} {base : Heap} {CR : Addr} {x qual : Str} {params : Arguments} {body : List Stmt} {scope : Scope} {dvs : List V} {kws : List (Str × V)} {f : Addr} {fd : FuncData} {N ps : List Str} {k : Nat} {d : DS}
    (F : FunD K x qual params body scope dvs kws f fd) (S : FnScope N ps scope) (hb : ∀ (cdv : Value) (_ : CodeAt K f cdv qual) (A : Around) (outer : List Env) (s : Shared) (H : Hp) (E : XK) (Nn : Addr → Prop), Room k (A.deeper (envOfC qual scope s.heap.objs.size f cdv)) →
      JSs (cxOf (L2.CX P w) P w K mg base N qual scope f cdv A outer s H E) ⟨CR, Nn, fun c dd _ H => E c dd H⟩ body d) : FJ P w K mg base CR (k + 1) f fd ps (runBody N.length d) := by
  refine fnG_ofC F S (fun vs H Q E h => ?_) (fun cdv hcd A outer s H vs Q E hr h => body_asks S (fun Nn => hb cdv hcd A outer s H E Nn hr) h)
  obtain ⟨N, l, qs, mu, e, ok, r, hl, q⟩ := h
  rw [← r.length, hl]
theorem jf_fn {P : Program} {w : World} {K : PySem.W.Frag} {mg : Str → Option Value} {base : Heap} {CR : Addr} {x qual : Str} {params : Arguments} {body : List Stmt} {scope : Scope} {dvs : List V} {kws : List (Str × V)} {f : Addr} {fd : FuncData} {N ps : List Str} {k : Nat} {d : DS}
    (F : FunD K x qual params body scope dvs kws f fd) (S : FnScope N ps scope) (hb : ∀ (cdv : Value) (A : Around) (outer : List Env) (s : Shared) (H : Hp) (E : XK) (Nn : Addr → Prop), Room k (A.deeper (envOfC qual scope s.heap.objs.size f cdv)) →
      JSs (cxOf (L2.CX P w) P w K mg base N qual scope f cdv A outer s H E) ⟨CR, Nn, fun c dd _ H => E c dd H⟩ body d) : FJ P w K mg base CR (k + 1) f fd ps (runBody N.length d) := jf_fnC F S fun cdv _ => hb cdv
/-- the other lists of a frame, hidden from a callee -/
def hidN (K : PySem.W.Frag) (g : Gx) (l : Lc) : Addr → Prop := fun a => g.N a ∨ (l.M a ∧ a ∉ l.al ∧ ¬ IsT K a)
@[simp] def dFnS (F : DF) (da : DA) : DE := fun s => (da s).bind fun ps s1 => match F ps s1.mu with
  | .ok v mu => .ok v ⟨s1.env, mu⟩
  | .exn e mu => .exn e ⟨s1.env, mu⟩
  | .bad => .bad
section
variable {K : PySem.W.Frag} {g : Gx} {l : Lc} {s : S} {σ : St} {ps : List PV} {us : List V} {Q : VK} {F : DF} {n : Nat}
/-- at a call: what the callee's promise asks -/
theorem call_asks (ok : Sok K g l s σ) (r : RepGL K g l ps us) (hn : ps.length = n) (run : Run K g (match F ps s.mu with | .ok v mu => .ok v ⟨s.env, mu⟩ | .exn e mu => .exn e ⟨s.env, mu⟩ | .bad => .bad) l σ Q) :
    spJ K g.CR n F us l.H Q (fun c dd H => g.W c dd σ H) := by
  have hL : ∀ a, (Gx.L ⟨g.CR, hidN K g l, W0⟩ ⟨l.al, fun a => a ∈ l.al ∨ IsT K a, l.H⟩ a) → g.L l a := fun a h => by
    rcases h with h | h | ⟨h, _⟩
    · exact .inl (ok.inM h)
    · exact .inr h
    · exact .inl h
  refine ⟨hidN K g l, ⟨l.al, fun a => a ∈ l.al ∨ IsT K a, l.H⟩, ps, s.mu, rfl, ok.toF (fun a h => by
    rcases h with h | ⟨h, _⟩
    · exact .inr h
    · exact .inl h) (fun a h z => by
    rcases z with z | ⟨_, z, z2⟩
    · exact ok.mn a (ok.inM h) z
    · exact h.elim z z2), RepL.mono (fun _ _ h => h) (fun a o n e => ⟨e, fun z => n (hL a z)⟩) _ _ r, hn, ?_⟩
  -- what the caller sees behind the call
  have back : ∀ {lc : Lc} {mu' : List MO}, Step ⟨l.al, fun a => a ∈ l.al ∨ IsT K a, l.H⟩ lc → Fok K g.CR (hidN K g l) lc mu' →
      ∃ l', l'.H = lc.H ∧ l'.al = lc.al ∧ Step l l' ∧ Sok K g l' ⟨s.env, mu'⟩ σ ∧ ∀ a, g.L l' a → Gx.L ⟨g.CR, hidN K g l, W0⟩ lc a := by
    intro lc mu' st fo
    have stM : ∀ a, lc.M a → l.M a ∨ l.H a = none := fun a h => by
      rcases st.new a h with h | h
      · exact .inl (ok.inM h)
      · exact .inr h
    have st' : Step l ⟨lc.al, fun a => lc.M a ∨ (l.M a ∧ a ∉ l.al ∧ ¬ IsT K a), lc.H⟩ := by
      refine ⟨st.pre, fun a h => ?_, fun a o n e => st.keep a o (fun z => n (ok.inM z)) e, st.dom⟩
      rcases h with h | ⟨h, _⟩
      · exact stM a h
      · exact .inl h
    have back2 : ∀ a, g.L ⟨lc.al, fun a => lc.M a ∨ (l.M a ∧ a ∉ l.al ∧ ¬ IsT K a), lc.H⟩ a → Gx.L ⟨g.CR, hidN K g l, W0⟩ lc a := fun a h => by
      rcases h with (h | h) | h
      · exact .inl h
      · exact .inr (.inr h)
      · exact .inr (.inl h)
    have nal : ∀ a, l.M a → a ∉ l.al → ¬ IsT K a → a ∉ lc.al := fun a h1 h2 h3 z => by
      rcases st.new a ((fo.iff a).mpr (.inl z)) with q | q
      · exact q.elim h2 h3
      · exact ok.there a (.inl h1) q
    refine ⟨⟨lc.al, fun a => lc.M a ∨ (l.M a ∧ a ∉ l.al ∧ ¬ IsT K a), lc.H⟩, rfl, rfl, st', ⟨ok.len, fun i v e => ?_, fun i xs e => ?_, ok.dis, fo.ok.mlen, fun n a m h1 h2 => ?_, fo.ok.nd, fun a h => .inl (fo.ok.alM a h), fun a h => ?_, fun a h => ?_, fun x hx => (fo.ok.tabs x hx).to (.inl (fo.ok.tabs x hx).M) (fo.ok.tabs x hx).al (fun _ q => q) fun c q n e => ⟨e, fun z => n (back2 c z)⟩⟩, back2⟩
    · obtain ⟨u, h1, h2⟩ := ok.env i v e
      exact ⟨u, h1, st'.rep h2⟩
    · obtain ⟨a, vs, h1, h2, h3, h4, h5⟩ := ok.own i xs e
      have h6 := ok.noT h4 fun ps z => by cases z
      exact ⟨a, vs, h1, .inr ⟨h2, h3, h6⟩, nal a h2 h3 h6, st.keep a _ (fun z => z.elim h3 h6) h4, st'.reps h5⟩
    · have q := fo.ok.mu n a m h1 h2
      have rp : ∀ x v, RepGL K ⟨g.CR, hidN K g l, W0⟩ lc x v → RepGL K g ⟨lc.al, fun a => lc.M a ∨ (l.M a ∧ a ∉ l.al ∧ ¬ IsT K a), lc.H⟩ x v := fun x v h => RepL.mono (fun _ _ h => h) (fun a o n e => ⟨e, fun z => n (back2 a z)⟩) x v h
      cases m with
      | lst xs => obtain ⟨vs, q1, q2⟩ := q; exact ⟨vs, q1, rp _ _ q2⟩
      | ins C ns xs => obtain ⟨dx, vs, q1, q2, q3⟩ := q; exact ⟨dx, vs, q1, q2, rp _ _ q3⟩
      | nst C ns xs => obtain ⟨dx, vs, q1, q2, q3⟩ := q; exact ⟨dx, vs, q1, q2, rp _ _ q3⟩
      | dic ns xs => obtain ⟨vs, q1, q2, q9, q3⟩ := q; exact ⟨vs, q1, q2, q9, rp _ _ q3⟩
    · rcases h with (h | ⟨h, _⟩) | h
      · exact fo.ok.there a (.inl h)
      · exact st.dom a (ok.there a (.inl h))
      · exact st.dom a (ok.there a (.inr h))
    · rcases h with h | ⟨h, _⟩
      · exact fun z => fo.ok.mn a h (.inl z)
      · exact ok.mn a h
  cases e : F ps s.mu with
  | bad => rw [e] at run; exact run
  | ok v mu =>
    rw [e] at run
    intro lc u st fo rv
    obtain ⟨l', e1, e2, st', ok', hb⟩ := back st fo
    have := run l' u st' ok' (by
      show Rep K g.CR l'.al (g.L l') l'.H v u
      rw [e1, e2]
      exact Rep.mono (fun _ _ h => h) (fun a o n e => ⟨e, fun z => n (hb a z)⟩) v u rv)
    rw [e1] at this
    exact this
  | exn ex mu =>
    rw [e] at run
    intro lc cls dd st fo rx
    obtain ⟨l', e1, e2, st', ok', hb⟩ := back st fo
    have := run l' cls dd st' ok' (by
      obtain ⟨C, ns, xs, us, h1, h2, h3, h4, h5⟩ := rx
      refine ⟨C, ns, xs, us, h1, h2, h3, ?_, ?_⟩
      · show RepL K g.CR l'.al (g.L l') l'.H xs us
        rw [e1, e2]
        exact RepL.mono (fun _ _ h => h) (fun a o n e => ⟨e, fun z => n (hb a z)⟩) _ _ h4
      · rcases h5 with h5 | ⟨d', h5, h6, h7⟩
        · exact .inl h5
        · exact .inr ⟨d', h5, fun z => h6 (hb _ z), by rw [e1]; exact h7⟩)
    rw [e1] at this
    exact this
end
end L3
namespace L3
open PySem PySem.Spec PyProof.Rows L2
def putN (f : Str) : List Str → List Str
  | [] => [f]
  | n :: ns => if n = f then n :: ns else n :: putN f ns
def putV {a : Type} (f : Str) (v : a) : List Str → List a → List a
  | n :: ns, x :: xs => if n = f then v :: xs else x :: putV f v ns xs
  | _, _ => [v]
def getV {a : Type} (f : Str) : List Str → List a → Option a
  | n :: ns, x :: xs => if n = f then some x else getV f ns xs
  | _, _ => none
theorem putF_zip {f : Str} {v : V} : ∀ {ns : List Str} {vs : List V}, ns.length = vs.length → L2.putF f v (ns.zip vs) = (putN f ns).zip (putV f v ns vs)
  | [], [], _ => rfl
  | n :: ns, x :: vs, h => by
    show (if n = f then (n, v) :: ns.zip vs else (n, x) :: L2.putF f v (ns.zip vs)) = (if n = f then n :: ns else n :: putN f ns).zip (if n = f then v :: vs else x :: putV f v ns vs)
    by_cases e : n = f
    · rw [if_pos e, if_pos e, if_pos e]; rfl
    · rw [if_neg e, if_neg e, if_neg e, putF_zip (by simpa using h)]; rfl
theorem put_len {a : Type} {f : Str} {v : a} : ∀ {ns : List Str} {vs : List a}, ns.length = vs.length → (putN f ns).length = (putV f v ns vs).length
  | [], [], _ => rfl
  | n :: ns, x :: vs, h => by
    show (if n = f then n :: ns else n :: putN f ns).length = (if n = f then v :: vs else x :: putV f v ns vs).length
    by_cases e : n = f
    · rw [if_pos e, if_pos e]; simpa using h
    · rw [if_neg e, if_neg e, List.length_cons, List.length_cons, put_len (by simpa using h)]
theorem lookup_zip {f : Str} : ∀ {ns : List Str} {vs : List V}, (ns.zip vs).lookup f = getV f ns vs
  | [], _ => by simp [getV]
  | n :: ns, [] => rfl
  | n :: ns, x :: vs => by
    show ((n, x) :: ns.zip vs).lookup f = if n = f then some x else getV f ns vs
    by_cases e : n = f
    · have hb : (f == n) = true := beq_iff_eq.mpr e.symm
      rw [if_pos e]; simp only [List.lookup, hb]
    · have hb : (f == n) = false := beq_eq_false_iff_ne.mpr (Ne.symm e)
      rw [if_neg e, ← lookup_zip]; simp only [List.lookup, hb]
section
variable {K : PySem.W.Frag} {CR : Addr} {al : List Addr} {L : Addr → Prop} {H : Hp} {f : Str}
theorem RepL.put {x : PV} {v : V} (hx : Rep K CR al L H x v) : ∀ {ns : List Str} {xs : List PV} {vs : List V}, RepL K CR al L H xs vs → RepL K CR al L H (putV f x ns xs) (putV f v ns vs)
  | [], xs, vs, h => ⟨v, [], rfl, hx, rfl⟩
  | n :: ns, [], vs, h => by
    cases (show vs = [] from h)
    exact ⟨v, [], rfl, hx, rfl⟩
  | n :: ns, y :: xs, vs, h => by
    obtain ⟨w, r, rfl, h1, h2⟩ := h
    show RepL K CR al L H (if n = f then x :: xs else y :: putV f x ns xs) (if n = f then v :: r else w :: putV f v ns r)
    by_cases e : n = f
    · rw [if_pos e, if_pos e]; exact ⟨v, r, rfl, hx, h2⟩
    · rw [if_neg e, if_neg e]; exact ⟨w, _, rfl, h1, RepL.put hx h2⟩
theorem RepL.getV {x : PV} : ∀ {ns : List Str} {xs : List PV} {vs : List V}, RepL K CR al L H xs vs → L3.getV f ns xs = some x → ∃ v, L3.getV f ns vs = some v ∧ Rep K CR al L H x v
  | [], xs, vs, h, e => by simp [L3.getV] at e
  | n :: ns, [], vs, h, e => by simp [L3.getV] at e
  | n :: ns, y :: xs, vs, h, e => by
    obtain ⟨w, r, rfl, h1, h2⟩ := h
    have e : (if n = f then some y else L3.getV f ns xs) = some x := e
    show ∃ v, (if n = f then some w else L3.getV f ns r) = some v ∧ _
    by_cases z : n = f
    · rw [if_pos z] at e ⊢
      cases e
      exact ⟨w, rfl, h1⟩
    · rw [if_neg z] at e ⊢
      exact RepL.getV h2 e
end
def insP (mu : List MO) : PV → Option (Addr × List Str × List PV)
  | .ptr n => (match mu[n]? with
    | some (.ins C ns xs) => some (C, ns, xs)
    | _ => none)
  | .obj C ns xs => some (C, ns, xs)
  | _ => none
@[simp] theorem insP_obj {mu : List MO} {C : Addr} {ns : List Str} {xs : List PV} : insP mu (.obj C ns xs) = some (C, ns, xs) := rfl
@[simp] theorem insP_ptr {mu : List MO} {n : Nat} : insP mu (.ptr n) = (match mu[n]? with | some (.ins C ns xs) => some (C, ns, xs) | _ => none) := rfl
@[simp] def fFld (cs : List Addr) (f : Str) : PV → S → R S PV := fun p s => match insP s.mu p with
  | some (C, ns, xs) => if C ∈ cs then optR (getV f ns xs) s else .bad
  | none => .bad
@[simp] def dFPut (cs : List Addr) (f : Str) (ob de : DE) : DS := fun s => (de s).bind fun v s1 => (ob s1).bind fun o s2 => match o with
  | .ptr n => (match s2.mu[n]? with
    | some (.ins C ns xs) => if C ∈ cs ∧ ns.length < 1000 then .ok .nx ⟨s2.env, s2.mu.set n (.ins C (putN f ns) (putV f v ns xs))⟩ else .bad
    | _ => .bad)
  | _ => .bad
abbrev sTop : Str := "own_top"
abbrev sBot : Str := "own_bottom"
structure ClsR (K : PySem.W.Frag) (CR : Addr) : Prop where
  cls : Cls K CR
  top : NoAttr K CR "own_top"
  bot : NoAttr K CR "own_bottom"
@[simp] def fTop : PV → S → R S PV := fun p s => match p with
  | .rat q => .ok (.int q.num) s
  | _ => .bad
@[simp] def fBot : PV → S → R S PV := fun p s => match p with
  | .rat q => .ok (.int q.den) s
  | _ => .bad
def ClsF (K : PySem.W.Frag) (cs : List Addr) (f : Str) : Prop := ∀ C ∈ cs, Cls K C ∧ NoAttr K C f
section
variable {X : Cx} {g : Gx} {a b c e tg iter elt o : Expr} {es ifs : List Expr} {da db dc de dob : DE} {dr : DA} {dl : DL} {pos : Pos} {k : Nat} {f C : Addr} {fd : FuncData} {ps : List Str} {F : DF} {x m : Str} {p apos : Pos}
theorem j_top (T : ClsR X.K g.CR) (he : JE X g e de) (hb : attributeBase e "own_top" X.env (eval e X.env) = eval e X.env := by rfl) : JE X g (.Attribute e "own_top" pos) (dUn fTop de) := PE.cq (pe_fld he hb) fun pins s σ H Q I q => by
  obtain ⟨l, s, rfl, ok, q⟩ := q
  refine ⟨l, s, rfl, ok, Run.mono (Run.bind q) fun u H1 ⟨l1, s1, v, e1, ok1, r1, st1, h1⟩ => ?_⟩
  subst e1
  cases v with
  | rat q =>
    obtain ⟨a, dx, rfl, n, h⟩ := r1
    exact ⟨a, g.CR, dx, _, _, rfl, h, T.cls, T.top, rfl, h1 l1 _ (Step.refl l1) ok1 rfl⟩
  | _ => exact h1.elim
theorem j_bot (T : ClsR X.K g.CR) (he : JE X g e de) (hb : attributeBase e "own_bottom" X.env (eval e X.env) = eval e X.env := by rfl) : JE X g (.Attribute e "own_bottom" pos) (dUn fBot de) := PE.cq (pe_fld he hb) fun pins s σ H Q I q => by
  obtain ⟨l, s, rfl, ok, q⟩ := q
  refine ⟨l, s, rfl, ok, Run.mono (Run.bind q) fun u H1 ⟨l1, s1, v, e1, ok1, r1, st1, h1⟩ => ?_⟩
  subst e1
  cases v with
  | rat q =>
    obtain ⟨a, dx, rfl, n, h⟩ := r1
    exact ⟨a, g.CR, dx, _, _, rfl, h, T.cls, T.bot, rfl, h1 l1 _ (Step.refl l1) ok1 rfl⟩
  | _ => exact h1.elim
/-- o.f = e -/
theorem js_fput {cs : List Addr} {fl : Str} {p2 : Pos} (T : ClsF X.K cs fl) (ho : JE X g o dob) (he : JE X g e de) (hs : swapsWith e (some (.Attribute o fl p2)) pos.line X.env = pure false := by rfl) : JS X g (.Assign [.Attribute o fl p2] e pos) (dFPut cs fl dob de) :=
  PS.cq (ps_fld ho he hs) fun pins s D σ H I q => by
    obtain ⟨l, s, rfl, ok, q⟩ := q
    refine ⟨l, s, rfl, ok, Run.mono (Run.bindS q) fun u H1 ⟨l1, s1, v, e1, ok1, r1, st1, h1⟩ => ?_⟩
    refine ⟨l1, s1, e1, ok1, Run.mono (Run.bindS h1) fun w H2 ⟨l2, s2, y, e2, ok2, r2, st2, h2⟩ => ?_⟩
    subst e2
    cases y with
    | ptr n =>
      simp only at h2
      cases e3 : s2.mu[n]? with
      | none => rw [e3] at h2; exact h2.elim
      | some z =>
        rw [e3] at h2
        cases z with
        | lst xs => exact h2.elim
        | dic ks xs => exact h2.elim
        | nst c ks xs => exact h2.elim
        | ins C ns xs =>
          simp only at h2
          by_cases hc : C ∈ cs ∧ ns.length < 1000
          · rw [if_pos hc] at h2
            obtain ⟨a, ha, rfl⟩ := r2
            obtain ⟨dx, vs, h3, h4, h5⟩ := ok2.mu n a _ ha e3
            refine ⟨a, C, dx, _, rfl, h3, (T C hc.1).1, (T C hc.1).2, by rw [List.length_zip, ← h4]; have := hc.2; omega, ?_⟩
            have hM : l2.M a := ok2.alM a (List.mem_of_getElem? ha)
            have st := Step.at_ hM (.ins C dx (L2.putF fl u (ns.zip vs)))
            exact h2 _ σ st (ok2.muSet ha fun l' e1 e2 e3 => ⟨dx, putV fl u ns vs, by rw [e3, upd_same, putF_zip h4], put_len (a := V) h4, by
              have q := RepL.put (f := fl) (ns := ns) (st.rep (st2.rep r1)) (st.reps h5)
              show RepL X.K g.CR l'.al (g.L l') l'.H _ _
              have el : l' = ⟨l2.al, l2.M, upd l2.H a (.ins C dx (L2.putF fl u (ns.zip vs)))⟩ := by
                obtain ⟨x1, x2, x3⟩ := l'
                cases e1; cases e2; cases e3; rfl
              rw [el]
              exact q⟩)
          · rw [if_neg hc] at h2
            exact h2.elim
    | _ => exact h2.elim
end
inductive TP where
  | non | bl | int | str | tup | lst | rat | cls (C : Addr) | dct | nam (c : Str)
def TP.val (K : PySem.W.Frag) (CR : Addr) : TP → Value
  | .non => .type "NoneType" | .bl => .type "bool" | .int => .type "int" | .str => .type "str" | .tup => .type "tuple" | .lst => .type "list" | .rat => .ref CR | .cls C => .ref C | .dct => .type "dict" | .nam c => .ref (He.ga K c)
@[simp] def tpOf (mu : List MO) : PV → Option TP
  | .non => some .non | .bl _ => some .bl | .int _ => some .int | .str _ => some .str | .tup _ => some .tup | .lst _ => some .lst | .frz _ => some .lst | .rat _ => some .rat
  | .obj C _ _ => some (.cls C)
  | .ptr n => (match mu[n]? with
    | some (.lst _) => some .lst
    | some (.ins C _ _) => some (.cls C)
    | some (.dic _ _) => none
    | some (.nst c _ _) => some (.nam c)
    | none => none)
  | .adr _ => none | .ty _ => none
  | .dk _ _ => some .dct | .dt _ _ => none | .exc _ _ _ => none | .clo _ _ => none
/-- what a class must have for isinstance -/
structure ClsI (K : PySem.W.Frag) (C : Addr) : Prop where
  cls : Cls K C
  ha : PySem.W.findIn K (.ref C) "__class__" = some (some (.builtin "object.__class__"))
  hm : PySem.W.mroIn K C (.type "object") = some true
structure KIsi (K : PySem.W.Frag) : Prop where
  hn : PySem.W.specialIn K (.builtin "object.__class__") "__get__" = some (some (.builtin "getset_descriptor.__get__"))
  htk : PySem.W.takesIn K (.builtin "object.__class__") = some true
/-- the answers for one class u, at the types that b knows -/
def IsiK (K : PySem.W.Frag) (CR : Addr) (u : Value) (b : TP → Option Bool) : Prop := ∀ tp r, b tp = some r → PySem.W.kitOne K (tp.val K CR) u = some r ∧ ∀ C, (tp = .cls C ∨ (tp = .rat ∧ C = CR) ∨ ∃ c, tp = .nam c ∧ C = He.ga K c) → ClsI K C
@[simp] def fIsi (b : TP → Option Bool) : PV → S → R S PV := fun p s => match tpOf s.mu p with
  | some t => (match b t with
    | some r => .ok (.bl r) s
    | none => .bad)
  | none => .bad
theorem tp_ok {K : PySem.W.Frag} {g : Gx} {l : Lc} {s : S} {σ : St} {p : PV} {x : V} {t : TP} (kk : KIsi K) (ok : Sok K g l s σ) (r : RepG K g l p x) (h : tpOf s.mu p = some t) (hc : ∀ C, (t = .cls C ∨ (t = .rat ∧ C = g.CR) ∨ ∃ c, t = .nam c ∧ C = He.ga K c) → ClsI K C) : TyX K l.H x (t.val K g.CR) := by
  cases p with
  | non => cases h; rw [show x = .non from r]; exact .base .non
  | bl b => cases h; rw [show x = .bl b from r]; exact .base (.bl b)
  | int i => cases h; rw [show x = .int i from r]; exact .base (.int i)
  | str y => cases h; rw [show x = .str y from r]; exact .base (.str y)
  | rat q =>
    cases h
    obtain ⟨a, dx, rfl, n, h⟩ := r
    have c := hc g.CR (.inr (.inl ⟨rfl, rfl⟩))
    exact .base (.ins h c.cls c.ha kk.hn kk.htk c.hm)
  | tup xs =>
    cases h
    obtain ⟨a, vs, rfl, (⟨_, h | ⟨u, h⟩⟩ | ⟨o, its, n, h, hc', _⟩), _⟩ := r
    · exact .base (.tup h)
    · exact .fTuple h
    · exact .kTuple h hc'
  | lst xs =>
    cases h
    obtain ⟨a, vs, rfl, _, h, _⟩ := r
    exact .base (.lst h)
  | frz xs =>
    cases h
    obtain ⟨a, vs, rfl, (⟨_, h | ⟨u, h⟩⟩ | ⟨o, its, n, h, hc', _⟩), _⟩ := r
    · exact .base (.lst h)
    · exact .base (.frz h)
    · exact .kList h hc'
  | obj C ns xs =>
    cases h
    obtain ⟨a, dx, vs, rfl, n, h, _⟩ := r
    have c := hc C (.inl rfl)
    exact .base (.ins h c.cls c.ha kk.hn kk.htk c.hm)
  | ptr n =>
    obtain ⟨a, ha, rfl⟩ := r
    simp only [tpOf] at h
    cases e : s.mu[n]? with
    | none => rw [e] at h; cases h
    | some m =>
      rw [e] at h
      cases m with
      | lst ys =>
        cases h
        obtain ⟨vs, h1, h2⟩ := ok.mu n a _ ha e
        exact .base (.lst h1)
      | dic ks ys => cases h
      | nst cn ks ys =>
        cases h
        obtain ⟨dx, vs, h1, h2, h3⟩ := ok.mu n a _ ha e
        have c := hc (He.ga K cn) (.inr (.inr ⟨cn, rfl, rfl⟩))
        exact .base (.ins h1 c.cls c.ha kk.hn kk.htk c.hm)
      | ins C ns ys =>
        cases h
        obtain ⟨dx, vs, h1, h2, h3⟩ := ok.mu n a _ ha e
        have c := hc C (.inl rfl)
        exact .base (.ins h1 c.cls c.ha kk.hn kk.htk c.hm)
  | adr a => cases h
  | ty n => cases h
  | dk ks xs =>
    cases h
    obtain ⟨a, vs, rfl, n, h, _⟩ := r
    rcases h with h | ⟨u, h⟩
    · exact .base (.dK h)
    · exact .fDict h
  | dt ks xs => cases h
  | exc C ns xs => cases h
  | clo t xs => cases h
section
variable {X : Cx} {g : Gx} {a b c e tg iter elt o : Expr} {es ifs : List Expr} {da db dc de dob : DE} {dr : DA} {dl : DL} {pos : Pos} {k : Nat} {f C : Addr} {fd : FuncData} {ps : List Str} {F : DF} {x m : Str} {p apos : Pos}
/-- isinstance(e, c), one class -/
theorem j_isi {cv : V} {cu : Value} {bb : TP → Option Bool} (kk : KIsi X.K) (T : IsiK X.K g.CR cu bb) (hcv : ClsV cv cu) (ha : JE X g a da) (hc : PE X c (tC cv)) (hg : Gl X "isinstance") (hm : X.mg "isinstance" = none)
    (h1 : starEach [a, c] X.env = (false, eval a X.env) :: starEach [c] X.env := by rfl) (h2 : starEach [c] X.env = (false, eval c X.env) :: starEach [] X.env := by rfl) (hpl : (backTo pos (starEach [c] X.env)).any (·.1) = false := by rfl) :
    JE X g (.Call (.Name "isinstance" p) [a, c] [] pos) (dUn (fIsi bb) da) :=
  PE.cq (pe_callB call_isi hg hm (by decide +kernel) (pa_cons ha (pa_cons hc pa_nil h2) h1) (by decide) (by decide) h1 hpl) fun pins s σ H Q I q => by
    obtain ⟨l, s, rfl, ok, q⟩ := q
    refine ⟨l, s, rfl, ok, Run.mono (Run.bind q) fun u H1 ⟨l1, s1, v, e1, ok1, r1, st1, h3⟩ => ?_⟩
    subst e1
    simp only [fIsi] at h3
    cases e2 : tpOf s1.mu v with
    | none => rw [e2] at h3; exact h3.elim
    | some t =>
      rw [e2] at h3
      simp only at h3
      cases e3 : bb t with
      | none => rw [e3] at h3; exact h3.elim
      | some r =>
        rw [e3] at h3
        obtain ⟨k1, k2⟩ := T t r e3
        exact ⟨u, cv, _, cu, r, rfl, hcv, tp_ok kk ok1 r1 e2 k2, k1, h3 l1 _ (Step.refl l1) ok1 rfl⟩
/-- isinstance(e, (c1, c2)), built-in types -/
theorem j_isi2 {c1 c2 : Expr} {v1 v2 : V} {u1 u2 : Value} {b1 b2 : TP → Option Bool} {x1} {tp : Pos} (kk : KIsi X.K) (T1 : IsiK X.K g.CR u1 b1) (T2 : IsiK X.K g.CR u2 b2) (hc1 : ClsV v1 u1) (hc2 : ClsV v2 u2) (ha : JE X g a da) (h1 : PE X c1 (tC v1)) (h2 : PE X c2 (tC v2)) (hg : Gl X "isinstance") (hm : X.mg "isinstance" = none)
    (s1 : starEach [a, .Tuple [c1, c2] x1 tp] X.env = (false, eval a X.env) :: starEach [.Tuple [c1, c2] x1 tp] X.env := by rfl) (s2 : starEach [.Tuple [c1, c2] x1 tp] X.env = (false, eval (.Tuple [c1, c2] x1 tp) X.env) :: starEach [] X.env := by rfl)
    (s3 : starEach [c1, c2] X.env = (false, eval c1 X.env) :: starEach [c2] X.env := by rfl) (s4 : starEach [c2] X.env = (false, eval c2 X.env) :: starEach [] X.env := by rfl) (hpl : (backTo pos (starEach [.Tuple [c1, c2] x1 tp] X.env)).any (·.1) = false := by rfl) :
    JE X g (.Call (.Name "isinstance" p) [a, .Tuple [c1, c2] x1 tp] [] pos) (dUn (fIsi fun t => match b1 t with | some true => some true | some false => b2 t | none => none) da) :=
  PE.cq (pe_callB call_isiT hg hm (by decide +kernel) (pa_cons ha (pa_cons (pe_tup (pa_cons h1 (pa_cons h2 pa_nil s4) s3)) pa_nil s2) s1) (by decide) (by decide) s1 hpl) fun pins s σ H Q I q => by
    obtain ⟨l, s, rfl, ok, q⟩ := q
    refine ⟨l, s, rfl, ok, Run.mono (Run.bind q) fun u H1 ⟨l1, s1, v, e1, ok1, r1, st1, h3⟩ => ?_⟩
    subst e1
    refine ⟨by rw [line_eq]; show 2 ≤ _; omega, fun tpA hp => ?_⟩
    simp only [fIsi] at h3
    cases e2 : tpOf s1.mu v with
    | none => rw [e2] at h3; exact h3.elim
    | some t =>
      rw [e2] at h3
      simp only at h3
      have st2 : Step l1 ⟨l1.al, l1.M, upd l1.H tpA (.tup [v1, v2])⟩ := Step.alloc hp
      have ok2 := ok1.alloc (o := .tup [v1, v2]) hp
      have r2 := st2.rep r1
      cases e3 : b1 t with
      | none => rw [e3] at h3; exact h3.elim
      | some r =>
        rw [e3] at h3
        obtain ⟨k1, k2⟩ := T1 t r e3
        have ty := tp_ok kk ok2 r2 e2 k2
        cases r with
        | true =>
          exact ⟨u, tpA, [v1, v2], _, [u1, u2], true, rfl, upd_same, .cons hc1 (.cons hc2 .nil), ty, kitAny_cons k1 (fun z => nomatch z) (fun _ => rfl), h3 _ _ st2 ok2 rfl⟩
        | false =>
          simp only at h3
          cases e4 : b2 t with
          | none => rw [e4] at h3; exact h3.elim
          | some r =>
            rw [e4] at h3
            obtain ⟨k3, k4⟩ := T2 t r e4
            exact ⟨u, tpA, [v1, v2], _, [u1, u2], r, rfl, upd_same, .cons hc1 (.cons hc2 .nil), ty, kitAny_cons k1 (fun _ => kitAny_cons k3 (fun z => by rw [z]; exact kitAny_nil) (fun z => z)) (fun z => nomatch z), h3 _ _ st2 ok2 rfl⟩
end
end L3
namespace L3
open PySem PySem.Spec PyProof.Rows L2
/-- C(e, ..) by __init__'s promise -/
theorem makeG {CX : CXT} {k : Nat} {f C : Addr} {fd : FuncData} {ps : List Str} {sp : Sp} {dvs : List V} {ds : List Value} {E : XK} {X : Cx} {pins : List (Addr × Obj)} {σ : St} {H : Hp} {s : Shared} {Q : VK} {us : List Value} {vs : List V} (M : Mk X.K C f)
    (F : FnG X.prog X.w X.K X.mg X.base CX k f fd ps sp) (hr : Room (k + 1) X.A) (hb : Binds X.K fd ps ds) (hd : Vals dvs ds) (hx : Passes CX X E) (I : Inv X pins σ H s) (r : Vals vs us)
    (h : ∀ x dx, H x = none → H dx = none → dx ≠ x → sp (.ref x :: (vs ++ dvs)) (upd (upd H dx (.own x)) x (.ins C dx [])) (fun v H2 => v = .non ∧ Q (.ref x) H2) E) :
    wpAny (model X.prog X.w) X.A (call (.ref C) us) (EP X pins σ Q) X.xe s := by
  let n := s.heap.objs.size
  have q1 := h (n + 1) n (I.hok.fresh (Nat.le_succ _)) (I.hok.fresh (Nat.le_refl _)) (Nat.ne_of_lt (Nat.lt_succ_self _))
  have J := Inv.made (C := C) I
  have rr : Vals (V.ref (n + 1) :: (vs ++ dvs)) (Value.ref (n + 1) :: (us ++ ds)) := .cons rfl (r.append hd)
  have hl : (Value.ref (n + 1) :: us ++ ds).length = ps.length := rr.length.symm.trans (F.len _ _ _ _ q1)
  refine wpAny_call (make_map (f := f) I.kIn M.makes M.init (beq_iff_eq.mp M.fn) (codeAny_mono (F.run _ X.stack _ _ ⟨Value.ref (n + 1) :: us, []⟩ _ _ _ E (hr.make C us []) (J.env0.make C us []) (hb _ (Value.ref (n + 1) :: us) J.kIn hl) rr q1) fun r s' z => ?_))
  match r, z with
  | .error e, z => exact hx pins σ _ _ e s' J z
  | .ok (.ret u), z =>
    obtain ⟨v, H', I3, rv, rfl, q3⟩ := J.after z
    exact ⟨rv, ⟨V.ref (n + 1), H', I3, rfl, q3⟩⟩
  | .ok .next, z => exact False.elim z
  | .ok .brk, z => exact False.elim z
  | .ok .cont, z => exact False.elim z
/-- o.f, a property, by the getter's promise -/
theorem propG {CX : CXT} {k : Nat} {f : Str} {C p gA a dx : Addr} {fs : List (Str × V)} {fd : FuncData} {ps : List Str} {sp : Sp} {dvs : List V} {ds : List Value} {E : XK} {X : Cx} {pins : List (Addr × Obj)} {σ : St} {H : Hp} {s : Shared} {Q : VK} {b : Bool} {E' : Value → Shared → Prop}
    (I : Inv X pins σ H s) (ea : H a = some (.ins C dx fs)) (c : Cls X.K C) (hp : PropOf X.K C f p gA) (F : FnG X.prog X.w X.K X.mg X.base CX k gA fd ps sp) (hr : Room (k + 1) X.A) (hb : Binds X.K fd ps ds) (hd : Vals dvs ds)
    (hx : ∀ (s : Shared) (e : Value) (s' : Shared), Inv X pins σ H s → CX X.stack H s E e s' → False) (h : sp (.ref a :: dvs) H Q E) : wpAny (model X.prog X.w) X.A (getAttr (.ref a) f b) (EP X pins σ Q) E' s := by
  obtain ⟨rest, hrec⟩ := hp.rec_
  obtain ⟨mA, O, _⟩ := ins_get I.hok ea
  obtain ⟨od, J, _⟩ := O.look
  have I1 := I.tok (s.toks + 1)
  have hl : ([Value.ref a] ++ ds).length = ps.length := (congrArg (· + 1) hd.length).symm.trans (F.len _ _ _ _ h)
  have hc : (PySem.W.clsIn X.K C).isSome = true := by
    obtain ⟨cd, e, _⟩ := PySem.W.any_some c.hd
    rw [e]; rfl
  have g1 := PySem.W.plainGet_of (c.get f)
  refine PySem.W.get_bind I.kIn J g1.1 (PySem.W.findObj_data hc hp.at_ hp.get hp.tak) g1.2 (wpAny_call (PySem.W.prop_get (s := { s with toks := s.toks + 1 }) I.kIn hrec ?_))
  refine codeAny_mono (F.run X.A.in1 X.stack _ H ⟨[.ref a], []⟩ (.ref a :: ds) (.ref a :: dvs) Q E hr.in1 I1.env0.in1 (hb _ [.ref a] I1.kIn hl) (.cons rfl hd) h) fun r s' z => ?_
  match r, z with
  | .error er, z => exact (hx _ er s' I1 z).elim
  | .ok (.ret u), z =>
    obtain ⟨v, H', I3, rv, q3⟩ := I1.after z
    show wpAny _ _ (handedOut u) _ _ _
    rw [PySem.W.handedOut_of (handed_of rv)]
    exact wpAny_pure ⟨v, H', I3, rv, q3⟩
  | .ok .next, z => exact False.elim z
  | .ok .brk, z => exact False.elim z
  | .ok .cont, z => exact False.elim z
/-- how many arguments -/
def Ln (d : DA) (n : Nat) : Prop := ∀ s vs s', d s = .ok vs s' → vs.length = n
theorem Ln.nil : Ln dNil 0 := fun s vs s' h => by cases h; rfl
theorem Ln.cons {a : DE} {r : DA} {n : Nat} (h : Ln r n) : Ln (dCons a r) (n + 1) := fun s vs s' e => by
  simp only [dCons] at e
  cases e1 : a s with
  | bad => rw [e1] at e; cases e
  | exn x t => rw [e1] at e; cases e
  | ok v t =>
    rw [e1] at e
    have e : (r t).bind (fun xs s2 => R.ok (v :: xs) s2) = .ok vs s' := e
    cases e2 : r t with
    | bad => rw [e2] at e; cases e
    | exn x t => rw [e2] at e; cases e
    | ok us t2 =>
      rw [e2] at e
      cases e
      rw [List.length_cons, h _ _ _ e2]
@[simp] def fnS (F : DF) : List PV → S → R S PV := fun ps s => match F ps s.mu with
  | .ok v mu => .ok v ⟨s.env, mu⟩
  | .exn e mu => .exn e ⟨s.env, mu⟩
  | .bad => .bad
/-- a callee's exceptions are not looked at -/
@[simp] def fnQ (F : DF) : List PV → S → R S PV := fun ps s => match F ps s.mu with
  | .ok v mu => .ok v ⟨s.env, mu⟩
  | _ => .bad
theorem quiet_asks {K : PySem.W.Frag} {g : Gx} {l : Lc} {s : S} {σ : St} {ps : List PV} {us : List V} {Q : VK} {F : DF} {n : Nat} (ok : Sok K g l s σ) (r : RepGL K g l ps us) (hn : ps.length = n) (run : Run K g (fnQ F ps s) l σ Q) :
    spJ K g.CR n F us l.H Q (fun _ _ _ => False) := by
  have q : Run K ⟨g.CR, g.N, W0⟩ (match F ps s.mu with | .ok v mu => .ok v ⟨s.env, mu⟩ | .exn e mu => .exn e ⟨s.env, mu⟩ | .bad => .bad) l σ Q := by
    simp only [fnQ] at run
    cases e : F ps s.mu with
    | bad => rw [e] at run; exact run
    | exn x t => rw [e] at run; exact run.elim
    | ok v t =>
      rw [e] at run
      exact fun l' u a ok' rp => run l' u a (ok'.frame rfl rfl) rp
  exact call_asks (g := ⟨g.CR, g.N, W0⟩) (ok.frame rfl rfl) r hn q
/-- a new ratio -/
def FInit (CR : Addr) (okb : Int → Int → Bool) : DF := fun ps mu => match ps with
  | [.ptr n, .int t, .int b] => (match mu[n]? with
    | some (.ins C ns xs) => if C = CR ∧ ns = [] ∧ b ≠ 0 ∧ okb t b = true then .ok .non (mu.set n (.ins CR [sTop, sBot] [.int (Rat.divInt t b).num, .int (Rat.divInt t b).den])) else .bad
    | _ => .bad)
  | _ => .bad
@[simp] def fMakeR (okb : Int → Int → Bool) : List PV → S → R S PV := fun ps s => match ps with
  | [.int t, .int b] => if b ≠ 0 ∧ okb t b = true then .ok (.rat (Rat.divInt t b)) s else .bad
  | [.int t] => if okb t 1 = true then .ok (.rat (Rat.divInt t 1)) s else .bad
  | _ => .bad
section
variable {X : Cx} {g : Gx} {a b c e tg iter elt o : Expr} {es ifs : List Expr} {da db dc de dob : DE} {dr : DA} {dl : DL} {pos : Pos} {k : Nat} {f C : Addr} {fd : FuncData} {ps : List Str} {F : DF} {x m : Str} {p apos : Pos}
/-- all stays but tables of code objects -/
theorem Sok.growT {K : PySem.W.Frag} {g : Gx} {l l' : Lc} {s : S} {σ : St} (ok : Sok K g l s σ) (ea : l'.al = l.al) (eM : l'.M = l.M) (k : ∀ a o, ¬ IsT K a → l.H a = some o → l'.H a = some o) (tb : ∀ x ∈ TK K, TabI K g l' x) : Step l l' ∧ Sok K g l' s σ := by
  have dm : ∀ a, l.H a ≠ none → l'.H a ≠ none := fun a h => by
    by_cases z : IsT K a
    · obtain ⟨x, hx, e⟩ := z
      rw [e]
      exact (tb x hx).there
    · cases q : l.H a with
      | none => exact absurd q h
      | some o => rw [k a o z q]; simp
  have st : Step l l' := ⟨⟨[], by simp [ea]⟩, fun a h => .inl (by rw [← eM]; exact h), fun a o n h => k a o (fun z => n (ok.inM (.inr z))) h, dm⟩
  have nal : ∀ (n : Nat) a, l.al[n]? = some a → ¬ IsT K a := fun n a h ⟨x, hx, e⟩ => (ok.tabs x hx).al (by rw [← e]; exact List.mem_of_getElem? h)
  refine ⟨st, ok.len, fun i v e => ?_, fun i xs e => ?_, ok.dis, by rw [ea]; exact ok.mlen, fun n a m h1 h2 => ?_, by rw [ea]; exact ok.nd, by rw [ea, eM]; exact ok.alM, fun a h => dm a (ok.there a (by rw [← eM]; exact h)), by rw [eM]; exact ok.mn, tb⟩
  · obtain ⟨u, h1, h2⟩ := ok.env i v e
    exact ⟨u, h1, st.rep h2⟩
  · obtain ⟨a, vs, h1, h2, h3, h4, h5⟩ := ok.own i xs e
    exact ⟨a, vs, h1, by rw [eM]; exact h2, by rw [ea]; exact h3, k _ _ (ok.noT h4 fun ps z => by cases z) h4, st.reps h5⟩
  · rw [ea] at h1
    have q := ok.mu n a m h1 h2
    have nt := nal n a h1
    cases m with
    | lst xs =>
      obtain ⟨vs, q1, q2⟩ := q
      exact ⟨vs, k _ _ nt q1, st.reps q2⟩
    | ins C ns xs =>
      obtain ⟨dx, vs, q1, q2, q3⟩ := q
      exact ⟨dx, vs, k _ _ nt q1, q2, st.reps q3⟩
    | nst C ns xs =>
      obtain ⟨dx, vs, q1, q2, q3⟩ := q
      exact ⟨dx, vs, k _ _ nt q1, q2, st.reps q3⟩
    | dic ns xs =>
      obtain ⟨vs, q1, q2, q9, q3⟩ := q
      exact ⟨vs, k _ _ nt q1, q2, q9, st.reps q3⟩
/-- a code object in a table -/
def InT (K : PySem.W.Frag) (l : Lc) (a : Addr) : Prop := ∃ x ∈ TK K, ∃ (ps : Array Value) (pos : Pos), l.H (tA K x) = some (.tbl ps) ∧ codeAmong pos ps.toList = some (.ref a)
theorem Sok.inT {K : PySem.W.Frag} {g : Gx} {l : Lc} {s : S} {σ : St} (ok : Sok K g l s σ) {a : Addr} (h : InT K l a) : ¬ g.L l a := by
  obtain ⟨x, hx, ps, pos, h1, h2⟩ := h
  obtain ⟨ps', e1, _, e3⟩ := (ok.tabs x hx).is
  rw [h1] at e1
  cases e1
  obtain ⟨c, e, n, _⟩ := e3 pos _ h2
  cases e
  exact n
/-- what a new ratio's __init__ is asked -/
theorem make_asks {okb : Int → Int → Bool} {l : Lc} {s : S} {σ : St} {t b : Int} {Q : VK} {E : XK} (ok : Sok X.K g l s σ) (run : Run X.K g (.ok (.rat (Rat.divInt t b)) s) l σ Q) (hb : b ≠ 0) (ho : okb t b = true) (x dx : Addr) (hx : l.H x = none) (hd : l.H dx = none) (hn : dx ≠ x) :
    spJ X.K g.CR 3 (FInit g.CR okb) [.ref x, .int t, .int b] (upd (upd l.H dx (.own x)) x (.ins g.CR dx [])) (fun v H2 => v = .non ∧ Q (.ref x) H2) E := by
  have kept : ∀ a o, l.H a = some o → upd (upd l.H dx (.own x)) x (.ins g.CR dx []) a = some o := fun a o h => by
    rw [upd_ne (ne_of_none h hx), upd_ne (ne_of_none h hd)]; exact h
  obtain ⟨H1, eH⟩ : ∃ H1, H1 = upd (upd l.H dx (.own x)) x (.ins g.CR dx []) := ⟨_, rfl⟩
  rw [← eH] at kept ⊢
  have H1x : H1 x = some (.ins g.CR dx []) := by rw [eH, upd_same]
  have nTx : ¬ IsT X.K x := fun ⟨y, hy, e⟩ => (ok.tabs y hy).ne0 hx e.symm
  refine ⟨fun a => a ≠ x ∧ ¬ IsT X.K a ∧ ¬ InT X.K l a ∧ H1 a ≠ none, ⟨[x], fun a => a = x ∨ IsT X.K a, H1⟩, [.ptr 0, .int t, .int b], [.ins g.CR [] []], rfl, ⟨fun a => by simp, ?_⟩, ?_, rfl, ?_⟩
  · refine ⟨rfl, fun i v e => by simp at e, fun i v e => by simp at e, fun i j xs ys a _ e => by simp at e, rfl, fun n a m h1 h2 => ?_, by simp, fun a h => .inl (by simpa using h), fun a h => ?_, fun a h z => h.elim z.1 z.2.1, fun y hy => ?_⟩
    · cases n with
      | zero =>
        cases h1
        cases h2
        exact ⟨dx, [], H1x, rfl, rfl⟩
      | succ n => simp at h1
    · rcases h with (h | ⟨y, hy, h⟩) | h
      · rw [h]
        show H1 x ≠ none
        rw [H1x]; simp
      · obtain ⟨ps, e1, _⟩ := (ok.tabs y hy).is
        rw [h]
        show H1 _ ≠ none
        rw [kept _ _ e1]; simp
      · exact h.2.2.2
    · obtain ⟨ps, e1, e2, e3⟩ := (ok.tabs y hy).is
      refine ⟨.inr ⟨y, hy, rfl⟩, fun z => nTx ⟨y, hy, (List.mem_singleton.mp z).symm⟩, ps, kept _ _ e1, e2, fun pos cv e => ?_⟩
      obtain ⟨c, f1, f2, f3⟩ := e3 pos cv e
      refine ⟨c, f1, fun z => ?_, kept _ _ f3⟩
      rcases z with (z | z) | z
      · rw [z, hx] at f3; cases f3
      · exact ok.noT f3 (LamX.codeO_ne ·) z
      · exact z.2.2.1 ⟨y, hy, ps, pos, e1, by rw [e, f1]⟩
  · exact ⟨.ref x, _, rfl, ⟨x, rfl, rfl⟩, .int t, _, rfl, rfl, .int b, _, rfl, rfl, rfl⟩
  · show (match FInit g.CR okb [.ptr 0, .int t, .int b] [.ins g.CR [] []] with | .ok v mu' => _ | .exn e mu' => _ | .bad => _)
    have e0 : FInit g.CR okb [.ptr 0, .int t, .int b] [.ins g.CR [] []] = .ok .non [.ins g.CR [sTop, sBot] [.int (Rat.divInt t b).num, .int (Rat.divInt t b).den]] := by
      unfold FInit
      simp [hb, ho]
    rw [e0]
    intro lc u st fo rv
    refine ⟨rv, ?_⟩
    obtain ⟨dx', vs, h1, h2, h3⟩ : MoRep X.K _ lc x (.ins g.CR [sTop, sBot] [.int (Rat.divInt t b).num, .int (Rat.divInt t b).den]) := fo.ok.mu 0 x _ (st.al 0 x rfl) rfl
    have hall : ∀ a o, ¬ IsT X.K a → l.H a = some o → lc.H a = some o := fun a o nt h => st.keep a o (fun z => z.elim (ne_of_none h hx) nt) (kept a o h)
    have xM : lc.M x := fo.ok.alM x (List.mem_of_getElem? (st.al 0 x rfl))
    obtain ⟨st', ok'⟩ := ok.growT (l' := ⟨l.al, l.M, lc.H⟩) rfl rfl hall fun y hy => by
      obtain ⟨ps, e1, e2, e3⟩ := (fo.ok.tabs y hy).is
      refine ⟨(ok.tabs y hy).M, (ok.tabs y hy).al, ps, e1, e2, fun pos cv e => ?_⟩
      obtain ⟨c, f1, f2, f3⟩ := e3 pos cv e
      refine ⟨c, f1, fun z => ?_, f3⟩
      have z : g.L l c := z
      refine f2 (.inr ⟨fun y => f2 (.inl (by rw [y]; exact xM)), fun y => f2 (.inl (fo.ok.inM (.inr y))), fun y => ok.inT y z, ?_⟩)
      have := ok.there c z
      cases q : l.H c with
      | none => exact absurd q this
      | some o => rw [kept c o q]; simp
    refine run ⟨l.al, l.M, lc.H⟩ _ st' ok' ⟨x, dx', rfl, ok.fresh hx, ?_⟩
    show lc.H x = _
    rw [h1]
    obtain ⟨v1, r1, rfl, e1, v2, r2, rfl, e2, e3⟩ := h3
    cases (show r2 = [] from e3)
    rw [show v1 = .int _ from e1, show v2 = .int _ from e2] <;> rfl
/-- Ratio(t), Ratio(t, b) -/
theorem c_makeR {okb : Int → Int → Bool} {one : Value} (M : Mk X.K g.CR f) (G : FJ X.prog X.w X.K X.mg X.base g.CR k f fd ["self", "top", "bottom"] (FInit g.CR okb)) (hr : Room (k + 1) X.A) (hb : Binds X.K fd ["self", "top", "bottom"] []) (hb1 : Binds X.K fd ["self", "top", "bottom"] [one]) (h1 : RelV (.int 1) one) :
    CJ X g (fun us => call (.ref g.CR) us) (fMakeR okb) := by
  intro pins s σ xs vs Q l st ps I rv ok rp run
  have hx : Passes (L2.CX X.prog X.w) X (fun _ _ _ => False) := fun pins σ H s e s' I c => by
    obtain ⟨_, _, _, _, _, _, _, _, _, _, _, _, z⟩ := c
    exact z.elim
  simp only [fMakeR] at run
  split at run
  · rename_i t b
    obtain ⟨v1, r, rfl, q1, v2, r2, rfl, q2, q3⟩ := rp
    cases (show r2 = [] from q3)
    split at run
    · rename_i z
      refine makeG M G hr hb .nil hx I rv fun y dx hy hd hn => ?_
      rw [show v1 = .int t from q1, show v2 = .int b from q2]
      exact make_asks ok run z.1 z.2 y dx hy hd hn
    · exact run.elim
  · rename_i t
    obtain ⟨v1, r, rfl, q1, q3⟩ := rp
    cases (show r = [] from q3)
    split at run
    · rename_i z
      refine makeG M G hr hb1 (.cons h1 .nil) hx I rv fun y dx hy hd hn => ?_
      rw [show v1 = .int t from q1]
      exact make_asks ok run (by decide) z y dx hy hd hn
    · exact run.elim
  · exact run.elim
/-- f(e, ..), f a value that is known -/
theorem j_callG {u : Value} {fn : List PV → S → R S PV} (hc : CJ X g (fun us => call u us) fn) (hg : Gl X x) (hm : X.mg x = some u) (hk : PySem.W.keepIn X.K u = true) (ha : JA X g (e :: es) dr)
    (hdb : (x == ("__debug__" : Str)) = false := by decide) (he : starEach (e :: es) X.env = (false, eval e X.env) :: starEach es X.env := by rfl) (hpl : (backTo pos (starEach es X.env)).any (·.1) = false := by rfl) :
    JE X g (.Call (.Name x p) (e :: es) [] pos) (dFn fn dr) := by
  refine ⟨fun pins s σ H Q I h => ?_⟩
  obtain ⟨l, st, rfl, ok, h⟩ := h
  refine wpAny_Call_Name_kw (ld_glob I hg hm ?_ hdb)
  refine PySem.W.callWith_K (h₀ := X.base) I.ok.mod.kin hk (thn (ha.run pos pins s σ _ _ I ⟨l, st, rfl, ok, RunA.bind h⟩) fun us s1 ⟨vs, H1, I1, r, l1, s1', ps, e1, ok1, rp, st1, h1⟩ => ⟨I1.kIn, ?_⟩) he hpl
  subst e1
  exact hc pins s1 σ vs us Q l1 s1' ps I1 r ok1 rp h1
/-- a def of the text by its value -/
def KJ (X : Cx) (g : Gx) (f : Addr) (fn : List PV → S → R S PV) : Prop :=
  ∀ (pins : List (Addr × Obj)) (s : Shared) (σ : St) (xs : List V) (vs : List Value) (Q : VK) (l : Lc) (st : S) (ps : List PV), Inv X pins σ l.H s → Vals xs vs → Sok X.K g l st σ → RepGL X.K g l ps xs →
    Run X.K g (fn ps st) l σ Q → codeAny (model X.prog X.w) X.A (.call (.ref f) ⟨vs, []⟩) (fun r s' => match r with | .ok (.ret v) => EP X pins σ Q v s' | .ok _ => False | .error e => X.xe e s') s
theorem KJ.cj {fn : List PV → S → R S PV} (h : KJ X g f fn) : CJ X g (fun us => call (.ref f) us) fn := fun pins s σ xs vs Q l st ps I rv ok rp run => wpAny_call (h pins s σ xs vs Q l st ps I rv ok rp run)
/-- the same, deeper in -/
def KA (X : Cx) (g : Gx) (k : Nat) (f : Addr) (fn : List PV → S → R S PV) : Prop :=
  ∀ (A : Around), Sub X k A → ∀ (pins : List (Addr × Obj)) (s : Shared) (σ : St) (xs : List V) (vs : List Value) (Q : VK) (l : Lc) (st : S) (ps : List PV), Inv X pins σ l.H s → Vals xs vs → Sok X.K g l st σ → RepGL X.K g l ps xs →
    Run X.K g (fn ps st) l σ Q → codeAny (model X.prog X.w) A (.call (.ref f) ⟨vs, []⟩) (fun r s' => match r with | .ok (.ret v) => EP X pins σ Q v s' | .ok _ => False | .error e => X.xe e s') s
theorem KA.kj {fn : List PV → S → R S PV} (h : KA X g k f fn) (hr : Room k X.A) : KJ X g f fn := h X.A ⟨hr, rfl⟩
/-- the arguments given, then defaults -/
theorem ka_fnD {dvs : List V} {ds : List Value} {dps : List PV} {n : Nat} (G : FJ X.prog X.w X.K X.mg X.base g.CR k f fd ps F) (hb : Binds X.K fd ps ds) (hd : Vals dvs ds) (rd : ∀ l, RepGL X.K g l dps dvs) (hn : n + dps.length = ps.length) (tk : Takes X g.W) : KA X g k f (fun qs s => if qs.length = n then fnS F (qs ++ dps) s else .bad) := by
  intro A sb pins s σ xs vs Q l st qs I rv ok rp run
  by_cases z : qs.length = n
  · have run : Run X.K g (if qs.length = n then fnS F (qs ++ dps) st else .bad) l σ Q := run
    rw [if_pos z] at run
    have h := call_asks (F := F) (n := ps.length) ok (RepL.append rp (rd l)) (by rw [List.length_append, z, hn]) run
    have r2 : Vals (xs ++ dvs) (vs ++ ds) := rv.append hd
    have hl : (vs ++ ds).length = ps.length := by rw [← r2.length]; exact G.len _ _ _ _ h
    have e0 : Env0 X.prog X.w X.K X.mg X.base A X.stack s l.H := by
      have e := I.env0
      exact ⟨by rw [sb.fr]; exact e.frames, e.mod, e.bs, e.bsz, e.funs, e.frf, e.hok, e.bare⟩
    refine codeAny_mono (G.run A X.stack s l.H ⟨vs, []⟩ (vs ++ ds) (xs ++ dvs) Q (fun c dd H => g.W c dd σ H) sb.room e0 (hb s vs I.kIn hl) r2 h) fun r s' hq => ?_
    cases r with
    | error e => exact passAt tk σ pins l.H s e s' I hq
    | ok fl =>
      cases fl with
      | ret u => exact I.after hq
      | next => exact False.elim hq
      | brk => exact False.elim hq
      | cont => exact False.elim hq
  · have run : Run X.K g (if qs.length = n then fnS F (qs ++ dps) st else .bad) l σ Q := run
    rw [if_neg z] at run
    exact run.elim
theorem ka_fn (n : Nat) (G : FJ X.prog X.w X.K X.mg X.base g.CR k f fd ps F) (hb : Binds X.K fd ps []) (tk : Takes X g.W) (hn : n = ps.length := by rfl) : KA X g k f (fun qs s => if qs.length = n then fnS F qs s else .bad) := by
  have h := ka_fnD (dps := []) (n := n) (g := g) G hb .nil (fun l => rfl) hn tk
  intro A sb pins s σ xs vs Q l st qs I rv ok rp run
  exact h A sb pins s σ xs vs Q l st qs I rv ok rp (by
    show Run X.K g (if qs.length = n then fnS F (qs ++ []) st else .bad) l σ Q
    rw [List.append_nil]
    exact run)
theorem k_fn (n : Nat) (G : FJ X.prog X.w X.K X.mg X.base g.CR k f fd ps F) (hr : Room k X.A) (hb : Binds X.K fd ps []) (tk : Takes X g.W) (hn : n = ps.length := by rfl) : KJ X g f (fun qs s => if qs.length = n then fnS F qs s else .bad) := (ka_fn n G hb tk hn).kj hr
/-- f(e, ..) of a def of the text, every parameter given -/
theorem j_call (G : FJ X.prog X.w X.K X.mg X.base g.CR k f fd ps F) (hr : Room k X.A) (hm : X.mg x = some (.ref f)) (hk : PySem.W.keepIn X.K (.ref f) = true) (hb : Binds X.K fd ps []) (tk : Takes X g.W) (ha : JA X g (e :: es) dr) (hg : Gl X x := by rfl)
    (hn : ∀ s vs s', dr s = .ok vs s' → vs.length = ps.length) (hdb : (x == ("__debug__" : Str)) = false := by decide) (he : starEach (e :: es) X.env = (false, eval e X.env) :: starEach es X.env := by rfl) (hpl : (backTo pos (starEach es X.env)).any (·.1) = false := by rfl) :
    JE X g (.Call (.Name x p) (e :: es) [] pos) (dFnS F dr) :=
  PE.cq (j_callG (k_fn ps.length G hr hb tk).cj hg hm hk ha hdb he hpl) fun pins s σ H Q I q => by
    obtain ⟨l, s, rfl, ok, q⟩ := q
    refine ⟨l, s, rfl, ok, ?_⟩
    have q : Run X.K g ((dr s).bind fun ps s1 => fnS F ps s1) l σ Q := q
    show Run X.K g ((dr s).bind fun qs s => if qs.length = ps.length then fnS F qs s else .bad) l σ Q
    cases e1 : dr s with
    | bad => rw [e1] at q; exact q
    | exn e t => rw [e1] at q; exact q
    | ok vs t =>
      rw [e1] at q
      show Run X.K g (if vs.length = ps.length then fnS F vs t else .bad) l σ Q
      rw [if_pos (hn s vs t e1)]
      exact q
/-- e.f, a property of a ratio -/
@[simp] def fRat (fn : List PV → S → R S PV) : PV → S → R S PV := fun p s => match p with
  | .rat q => fn [.rat q] s
  | _ => .bad
theorem j_propR {fl : Str} {pA gA : Addr} (T : ClsR X.K g.CR) (hp : PropOf X.K g.CR fl pA gA) (G : FJ X.prog X.w X.K X.mg X.base g.CR k gA fd ["self"] F) (hr : Room (k + 1) X.A) (hb : Binds X.K fd ["self"] []) (he : JE X g e de) (hab : attributeBase e fl X.env (eval e X.env) = eval e X.env := by rfl) :
    JE X g (.Attribute e fl pos) (dUn (fRat (fnQ F)) de) :=
  ⟨fun pins s σ H Q I h => by
    obtain ⟨l, st, rfl, ok, h⟩ := h
    refine attr_of hab (thn (he.run pins s σ _ _ I ⟨l, st, rfl, ok, Run.bind h⟩) fun u s1 ⟨x, H1, I1, rx, l1, s1', v, e1, ok1, r1, st1, h1⟩ => ?_)
    subst e1
    cases v with
    | rat q =>
      obtain ⟨a, dx, rfl, n, hH⟩ := r1
      obtain rfl : u = Value.ref a := rx
      exact propG (E := fun _ _ _ => False) I1 hH T.cls hp G hr hb .nil (fun s e s' I c => by
        obtain ⟨_, _, _, _, _, _, _, _, _, _, _, _, z⟩ := c
        exact z.elim) (quiet_asks ok1 (ps := [.rat q]) ⟨.ref a, [], rfl, ⟨a, dx, rfl, n, hH⟩, rfl⟩ rfl h1)
    | _ => exact h1.elim⟩
/-- o.m(e, ..) of a ratio -/
@[simp] def dMethR (fn : List PV → S → R S PV) (d : DE) (dr : DA) : DE := fun s => (d s).bind fun p s1 => match p with
  | .rat q => (dr s1).bind fun ps s2 => fn (.rat q :: ps) s2
  | _ => .bad
theorem j_methR {pl : Sem Bool} (T : ClsR X.K g.CR) (hm : Meth X.K g.CR m f) (ht : m ≠ sTop) (hbo : m ≠ sBot) {fn : List PV → S → R S PV} (hc : KJ X g f fn) (ho : JE X g o dob) (ha : JA X g (e :: es) dr)
    (hst : starEach (e :: es) X.env = (false, eval e X.env) :: starEach es X.env := by rfl) (hpl : (backTo pos (starEach es X.env)).any (·.1) = false := by rfl)
    (htr : eval (.Call (.Attribute o m apos) (e :: es) [] pos) X.env = (do
      let ov ← eval o X.env
      standAt apos.atName
      let (f, first) ← holding [ov] (getMethod ov m pl)
      callWith pos f first (backTo pos (starEach (e :: es) X.env)) (backToKw pos (keywordEach [] X.env))) := by rfl) :
    JE X g (.Call (.Attribute o m apos) (e :: es) [] pos) (dMethR fn dob dr) := by
  refine ⟨fun pins s σ H Q I h => ?_⟩
  obtain ⟨l, st, rfl, ok, h⟩ := h
  refine PySem.W.methodCall_KW (pl := pl) (thn (ho.run pins s σ _ _ I ⟨l, st, rfl, ok, Run.bind h⟩) fun u s1 ⟨x, H1, I1, rx, l1, s1', v, e1, ok1, r1, st1, h1⟩ => ?_) htr
  subst e1
  cases v with
  | rat q =>
    obtain ⟨a, dx, rfl, n, hH⟩ := r1
    obtain rfl : u = Value.ref a := rx
    have l0 : List.lookup m [(("own_top" : Str), V.int q.num), ("own_bottom", .int q.den)] = none := by
      have b1 : (m == sTop) = false := beq_eq_false_iff_ne.mpr ht
      have b2 : (m == sBot) = false := beq_eq_false_iff_ne.mpr hbo
      simp only [List.lookup, b1, b2]
    refine getmeth_ok I1 hH T.cls hm l0 ?_
    refine PySem.W.callWith_K (first := [.ref a]) (h₀ := X.base) I.ok.mod.kin hm.kp (thn (ha.run pos pins s1 σ _ _ I1 ⟨l1, s1', rfl, ok1, RunA.bind h1⟩) fun us s2 ⟨vs, H2, I2, r, l2, s2', ps, e2, ok2, rp, st2, h2⟩ => ⟨I2.kIn, ?_⟩) hst hpl
    subst e2
    exact hc.cj pins s2 σ (.ref a :: vs) (.ref a :: us) Q l2 s2' (.rat q :: ps) I2 (.cons rfl r) ok2 ⟨.ref a, vs, rfl, st2.rep (x := .rat q) ⟨a, dx, rfl, n, hH⟩, rp⟩ h2
  | _ => exact h1.elim
end
end L3
namespace L3
open PySem PySem.Spec PyProof.Rows L2
end L3
namespace L3
open PySem PySem.Spec PyProof.Rows L2
structure BinF (K : PySem.W.Frag) (C f : Addr) (nm : String) : Prop where
  first : PySem.W.selfFirst K C = true
  at_ : PySem.W.findIn K (.ref C) (PySem.dunder nm) = some (some (.ref f))
  fn : PySem.W.isFn K (.ref f) = true
  rf : PySem.W.findIn K (.ref C) (dunderR nm) = some none ∨ ∃ g : Addr, PySem.W.findIn K (.ref C) (dunderR nm) = some (some (.ref g))
  i1 : ∃ fo, PySem.W.findIn K (.type "int") (PySem.dunder nm) = some fo
  i2 : ∃ ro, PySem.W.findIn K (.type "int") (dunderR nm) = some ro
  sub : PySem.W.subIn K (.type "int") (.ref C) = some false
structure UnF (K : PySem.W.Frag) (C f : Addr) (name : Str) : Prop where
  at_ : PySem.W.findIn K (.ref C) name = some (some (.ref f))
  fn : PySem.W.isFn K (.ref f) = true
@[simp] def fRL (fn : List PV → S → R S PV) : PV → PV → S → R S PV := fun p q s => match p, q with
  | .rat a, .rat b => fn [.rat a, .rat b] s
  | .rat a, .int b => fn [.rat a, .int b] s
  | _, _ => .bad
@[simp] def fRR (fn : List PV → S → R S PV) : PV → PV → S → R S PV := fun p q s => match p, q with
  | .int a, .rat b => fn [.rat b, .int a] s
  | _, _ => .bad
theorem back_of {X : Cx} {pins : List (Addr × Obj)} {σ : St} {Q : VK} {v : Value} {s : Shared} (h : EP X pins σ Q v s) : PySem.W.CmpBack (EP X pins σ Q) v s := by
  cases v with
  | notImplemented =>
    obtain ⟨x, H, I, r, q⟩ := h
    cases x with
    | int i => obtain ⟨t, e⟩ := (show ∃ t, Value.notImplemented = Value.int i t from r); cases e
    | str i => obtain ⟨t, e⟩ := (show ∃ t, Value.notImplemented = Value.str i t from r); cases e
    | flt i => obtain ⟨t, e⟩ := (show ∃ t, Value.notImplemented = Value.float i t from r); cases e
    | byt i => obtain ⟨t, e⟩ := (show ∃ t, Value.notImplemented = Value.bytes i t from r); cases e
    | non => cases (show Value.notImplemented = Value.none from r)
    | bl b => cases (show Value.notImplemented = Value.bool b from r)
    | ref a => cases (show Value.notImplemented = Value.ref a from r)
    | ty a => cases (show Value.notImplemented = Value.type a from r)
  | _ => exact h
section
variable {X : Cx} {g : Gx} {f : Addr} {fn : List PV → S → R S PV} {op : Operator}
theorem o_ratL (B : BinF X.K g.CR f op.info.2) (hc : KJ X g f fn) : OJ X g (binaryOp op) (fRL fn) := by
  intro pins s σ x y v u Q l st p q I rx ry ok rp rq run
  cases p with
  | rat a =>
    obtain ⟨a1, dx, rfl, n, hH⟩ := id rp
    cases (show v = .ref a1 from rx)
    obtain ⟨mA, O, _⟩ := ins_get I.hok hH
    obtain ⟨od, J, _⟩ := O.look
    obtain ⟨m, hF⟩ := I.fr
    cases q with
    | rat b =>
      obtain ⟨b1, dy, rfl, n2, hH2⟩ := id rq
      cases (show u = .ref b1 from ry)
      obtain ⟨mB, O2, _⟩ := ins_get I.hok hH2
      obtain ⟨od2, J2, _⟩ := O2.look
      exact PySem.W.binop_K hF I.ok.mod.kin J J2.type B.first B.at_ B.fn (wpAny_mono (hc.cj pins s σ [.ref a1, .ref b1] [.ref a1, .ref b1] Q l st [.rat a, .rat b] I (.cons rfl (.cons rfl .nil)) ok ⟨_, _, rfl, rp, _, _, rfl, rq, rfl⟩ run) (fun _ _ z => back_of z) fun _ _ z => z)
    | int b =>
      cases (show y = .int b from rq)
      obtain ⟨t, rfl⟩ := (show ∃ t, u = Value.int b t from ry)
      obtain ⟨fo, h1⟩ := B.i1
      obtain ⟨ro, h2⟩ := B.i2
      have hh := wpAny_mono (hc.cj pins s σ [.ref a1, .int b] [.ref a1, .int b t] Q l st [.rat a, .int b] I (.cons rfl (.cons ⟨t, rfl⟩ .nil)) ok ⟨_, _, rfl, rp, _, _, rfl, rfl, rfl⟩ run) (fun _ _ z => back_of z) fun _ _ z => z
      rcases B.rf with h3 | ⟨g', h3⟩
      · exact PySem.W.ksp_binT hF I.ok.mod.kin J rfl B.first B.at_ B.fn h3 (.inl rfl) h1 h2 B.sub hh
      · exact PySem.W.ksp_binT hF I.ok.mod.kin J rfl B.first B.at_ B.fn h3 (.inr ⟨g', rfl⟩) h1 h2 B.sub hh
    | _ => exact run.elim
  | _ => exact run.elim
/-- -x -/
theorem u_negR (B : UnF X.K g.CR f "__neg__") (hc : KJ X g f fn) : UJ X g (unaryOp .USub) (fRat fn) := by
  intro pins s σ x v Q l st p I rx ok rp run
  cases p with
  | rat a =>
    obtain ⟨a1, dx, rfl, n, hH⟩ := id rp
    cases (show v = .ref a1 from rx)
    obtain ⟨mA, O, _⟩ := ins_get I.hok hH
    obtain ⟨od, J, _⟩ := O.look
    obtain ⟨m, hF⟩ := I.fr
    exact PySem.W.ksp_neg hF I.ok.mod.kin J B.at_ B.fn (hc.cj pins s σ [.ref a1] [.ref a1] Q l st [.rat a] I (.cons rfl .nil) ok ⟨_, _, rfl, rp, rfl⟩ run)
  | _ => exact run.elim
@[simp] def fNegI : PV → S → R S PV := fun p s => match p with
  | .int i => .ok (.int (-i)) s
  | _ => .bad
theorem u_negI : UJ X g (unaryOp .USub) fNegI := UJ.of un_neg fun l st σ p x Q ok rp run => by
  cases p with
  | int i => exact ⟨i, rp, run l _ (Step.refl l) ok rfl⟩
  | _ => exact run.elim
/-- x == y, x a ratio; whatever y is -/
structure CmpF (K : PySem.W.Frag) (C f : Addr) (name : Str) : Prop where
  at_ : PySem.W.findIn K (.ref C) name = some (some (.ref f))
  fn : PySem.W.isFn K (.ref f) = true
  n0 : PySem.W.notFirst K C (.ref C) = true
  n1 : ∀ t : String, t = "int" ∨ t = "bool" ∨ t = "str" ∨ t = "NoneType" → PySem.W.notFirst K C (.type t) = true
@[simp] def fEqL (fn : List PV → S → R S PV) : PV → PV → S → R S PV := fun p q s => match p, q with
  | .rat a, .rat b => fn [.rat a, .rat b] s
  | .rat a, .int b => fn [.rat a, .int b] s
  | .rat a, .bl b => fn [.rat a, .bl b] s
  | .rat a, .str b => fn [.rat a, .str b] s
  | .rat a, .non => fn [.rat a, .non] s
  | _, _ => .bad
end
end L3
namespace L3
open PySem PySem.Spec PyProof.Rows L2
def froz1 (i : Nat) (s : S) : S := match s.env[i]? with
  | some (some (.own xs)) => ⟨s.env.set i (some (.val (.lst xs))), s.mu⟩
  | _ => s
@[simp] def frozS : List Nat → S → S
  | [], s => s
  | i :: is, s => frozS is (froz1 i s)
mutual
def flatP : PV → Bool
  | .tup xs => flatL xs
  | .obj _ _ xs => flatL xs
  | .dk _ xs => flatL xs
  | .dt _ xs => flatL xs
  | .exc _ _ xs => flatL xs
  | .clo _ xs => flatL xs
  | .lst _ => false
  | .frz _ => false
  | _ => true
def flatL : List PV → Bool
  | [] => true
  | x :: xs => flatP x && flatL xs
end
@[simp] def flatM : MO → Bool
  | .lst xs => flatL xs
  | .ins _ _ xs => flatL xs
  | .nst _ _ xs => flatL xs
  | .dic _ xs => flatL xs
def flatMs (mu : List MO) : Bool := mu.all flatM
section
variable {K : PySem.W.Frag} {g : Gx} {l : Lc} {s : S} {σ : St}
theorem freeze1 (i : Nat) (ok : Sok K g l s σ) : ∃ l0, Step l l0 ∧ l0.al = l.al ∧ l0.H = l.H ∧ (∀ a, l0.M a → l.M a) ∧ (∀ xs a, s.env[i]? = some (some (.own xs)) → σ[i]? = some (some (.ref a)) → ¬ l0.M a) ∧ Sok K g l0 (froz1 i s) σ ∧
    ∀ j xs, j ≠ i → s.env[j]? = some (some (.own xs)) → (froz1 i s).env[j]? = some (some (.own xs)) := by
  unfold froz1
  split
  · rename_i xs e
    obtain ⟨a, vs, h1, h2, h3, h4, h5⟩ := ok.own i xs e
    have hi : i < s.env.length := (List.getElem?_eq_some_iff.mp e).1
    have st : Step l ⟨l.al, fun b => l.M b ∧ b ≠ a, l.H⟩ := ⟨⟨[], by simp⟩, fun _ h => .inl h.1, fun _ _ n e => e, fun _ h => h⟩
    have st : Step l ⟨l.al, fun b => l.M b ∧ b ≠ a, l.H⟩ := ⟨⟨[], by simp⟩, fun _ h => .inl h.1, fun b o n e => e, fun _ h => h⟩
    refine ⟨⟨l.al, fun b => l.M b ∧ b ≠ a, l.H⟩, st, rfl, rfl, fun b h => h.1, fun ys b e1 e2 z => ?_, ?_, fun j ys n e1 => ?_⟩
    · rw [h1] at e2
      cases e2
      exact z.2 rfl
    · refine ⟨by show (s.env.set i _).length = _; rw [List.length_set]; exact ok.len, fun j v h => ?_, fun j ys h => ?_, fun j k ys zs b n q1 q2 q3 q4 => ?_, ok.mlen, fun n b m q1 q2 => ?_, ok.nd, fun b h => ⟨ok.alM b h, fun z => h3 (by rw [← z]; exact h)⟩, fun b h => ?_, fun b h => ok.mn b h.1, fun x hx => (ok.tabs x hx).to ⟨(ok.tabs x hx).M, (ok.tabs x hx).ne h4 fun ps z => by cases z⟩ (ok.tabs x hx).al (fun ps q => q) fun c q n e => st.repL' c _ n e⟩
      · by_cases z : j = i
        · subst z
          have h : (s.env.set j (some (.val (.lst xs))))[j]? = some (some (.val v)) := h
          rw [List.getElem?_set_self hi] at h
          cases h
          exact ⟨.ref a, h1, a, vs, rfl, fun q => by
            rcases q with q | q
            · exact q.2 rfl
            · exact ok.mn a h2 q, h4, st.reps h5⟩
        · have h : (s.env.set i (some (.val (.lst xs))))[j]? = some (some (.val v)) := h
          rw [List.getElem?_set_ne (Ne.symm z)] at h
          obtain ⟨u, q1, q2⟩ := ok.env j v h
          exact ⟨u, q1, st.rep q2⟩
      · by_cases z : j = i
        · subst z
          have h : (s.env.set j (some (.val (.lst xs))))[j]? = some (some (.own ys)) := h
          rw [List.getElem?_set_self hi] at h
          cases h
        · have h : (s.env.set i (some (.val (.lst xs))))[j]? = some (some (.own ys)) := h
          rw [List.getElem?_set_ne (Ne.symm z)] at h
          obtain ⟨b, ws, q1, q2, q3, q4, q5⟩ := ok.own j ys h
          exact ⟨b, ws, q1, ⟨q2, fun y => by rw [y] at q1; exact ok.dis j i ys xs a z h e q1 h1⟩, q3, q4, st.reps q5⟩
      · have oth : ∀ (j : Nat) zs, (s.env.set i (some (.val (.lst xs))))[j]? = some (some (.own zs)) → s.env[j]? = some (some (.own zs)) := fun j zs h => by
          by_cases z : j = i
          · subst z
            rw [List.getElem?_set_self hi] at h
            cases h
          · rw [List.getElem?_set_ne (Ne.symm z)] at h; exact h
        exact ok.dis j k ys zs b n (oth _ _ q1) (oth _ _ q2) q3 q4
      · have q := ok.mu n b m q1 q2
        cases m with
        | lst xs => obtain ⟨vs, r1, r2⟩ := q; exact ⟨vs, r1, st.reps r2⟩
        | ins C ns xs => obtain ⟨dx, vs, r1, r2, r3⟩ := q; exact ⟨dx, vs, r1, r2, st.reps r3⟩
        | nst C ns xs => obtain ⟨dx, vs, r1, r2, r3⟩ := q; exact ⟨dx, vs, r1, r2, st.reps r3⟩
        | dic ns xs => obtain ⟨vs, r1, r2, r9, r3⟩ := q; exact ⟨vs, r1, r2, r9, st.reps r3⟩
      · rcases h with h | h
        · exact ok.there b (.inl h.1)
        · exact ok.there b (.inr h)
    · show (s.env.set i _)[j]? = _
      rw [List.getElem?_set_ne (Ne.symm n)]
      exact e1
  · rename_i e
    exact ⟨l, Step.refl l, rfl, rfl, fun _ h => h, fun xs a h1 _ => absurd h1 (e xs), ok, fun _ _ _ h => h⟩
theorem freeze : ∀ (is : List Nat) {l : Lc} {s : S}, Sok K g l s σ → ∃ l0, Step l l0 ∧ l0.al = l.al ∧ l0.H = l.H ∧ (∀ a, l0.M a → l.M a) ∧ (∀ i ∈ is, ∀ xs a, s.env[i]? = some (some (.own xs)) → σ[i]? = some (some (.ref a)) → ¬ l0.M a) ∧ Sok K g l0 (frozS is s) σ
  | [], l, s, ok => ⟨l, Step.refl l, rfl, rfl, fun _ h => h, fun i h => by simp at h, ok⟩
  | i :: is, l, s, ok => by
    obtain ⟨l1, st1, e1, e2, e3, e4, ok1, e5⟩ := freeze1 i ok
    obtain ⟨l0, st0, f1, f2, f3, f4, ok0⟩ := freeze is ok1
    refine ⟨l0, st1.trans st0, f1.trans e1, f2.trans e2, fun a h => e3 a (f3 a h), fun j hj xs a h1 h2 z => ?_, ok0⟩
    by_cases q : j = i
    · subst q
      exact e4 xs a h1 h2 (f3 a z)
    · rcases List.mem_cons.mp hj with y | y
      · exact q y
      · exact f4 j y xs a (e5 j xs q h1) h2 z
mutual
theorem Rep.fl8 {CR : Addr} {al : List Addr} {L L' : Addr → Prop} {H : Hp} (hL : ∀ a o, ¬ L a → H a = some o → (∀ vs, o ≠ .lst vs) → ¬ L' a) : ∀ (x : PV) (v : V), flatP x = true → Rep K CR al L H x v → Rep K CR al L' H x v
  | .non, v, _, h => h
  | .bl b, v, _, h => h
  | .int i, v, _, h => h
  | .str x, v, _, h => h
  | .rat q, v, _, h => by
    obtain ⟨a, dx, e, n, h⟩ := h
    exact ⟨a, dx, e, hL a _ n h (fun vs z => by cases z), h⟩
  | .tup xs, v, hf, h => by
    obtain ⟨a, vs, e, h, r⟩ := h
    refine ⟨a, vs, e, ?_, RepL.fl8 hL xs vs (by unfold flatP at hf; exact hf) r⟩
    rcases h with ⟨n, h | ⟨u, h⟩⟩ | h
    · exact .inl ⟨hL a _ n h (fun vs z => by cases z), .inl h⟩
    · exact .inl ⟨hL a _ n h (fun vs z => by cases z), .inr ⟨u, h⟩⟩
    · exact .inr h
  | .lst xs, v, hf, h => by unfold flatP at hf; cases hf
  | .frz xs, v, hf, h => by unfold flatP at hf; cases hf
  | .obj C ns xs, v, hf, h => by
    obtain ⟨a, dx, vs, e, n, h, z, r⟩ := h
    exact ⟨a, dx, vs, e, hL a _ n h (fun vs z => by cases z), h, z, RepL.fl8 hL xs vs (by unfold flatP at hf; exact hf) r⟩
  | .ptr n, v, _, h => h
  | .adr a, v, _, h => h
  | .ty n, v, _, h => h
  | .dk ks xs, v, hf, h => by
    obtain ⟨a, vs, e, n, h, z, r⟩ := h
    refine ⟨a, vs, e, ?_, h, z, RepL.fl8 hL xs vs (by unfold flatP at hf; exact hf) r⟩
    rcases h with h | ⟨u, h⟩
    · exact hL a _ n h (fun vs z => by cases z)
    · exact hL a _ n h (fun vs z => by cases z)
  | .dt ks xs, v, hf, h => by
    obtain ⟨a, vs, e, n, h, z, r⟩ := h
    refine ⟨a, vs, e, ?_, h, z, RepL.fl8 hL xs vs (by unfold flatP at hf; exact hf) r⟩
    rcases h with h | ⟨u, h⟩
    · exact hL a _ n h (fun vs z => by cases z)
    · exact hL a _ n h (fun vs z => by cases z)
  | .exc C ns xs, v, hf, h => by
    obtain ⟨a, d, vs, e, n, h, z, q, r⟩ := h
    refine ⟨a, d, vs, e, hL a _ n h (fun vs z => by cases z), h, z, ?_, RepL.fl8 hL xs vs (by unfold flatP at hf; exact hf) r⟩
    rcases q with q | ⟨dd, q1, q2, q3⟩
    · exact .inl q
    · exact .inr ⟨dd, q1, hL dd _ q2 q3 (fun vs z => by cases z), q3⟩
  | .clo t xs, v, hf, h => by
    obtain ⟨e, n, h, r⟩ := h
    exact ⟨e, hL t.c _ n h (fun vs z => by cases z), h, RepL.fl8 hL xs t.vs (by unfold flatP at hf; exact hf) r⟩
theorem RepL.fl8 {CR : Addr} {al : List Addr} {L L' : Addr → Prop} {H : Hp} (hL : ∀ a o, ¬ L a → H a = some o → (∀ vs, o ≠ .lst vs) → ¬ L' a) : ∀ (x : List PV) (v : List V), flatL x = true → RepL K CR al L H x v → RepL K CR al L' H x v
  | [], v, _, h => h
  | x :: xs, v, hf, h => by
    obtain ⟨u, r, e, h1, h2⟩ := h
    have hf : (flatP x && flatL xs) = true := by unfold flatL at hf; exact hf
    rw [Bool.and_eq_true] at hf
    exact ⟨u, r, e, Rep.fl8 hL x u hf.1 h1, RepL.fl8 hL xs r hf.2 h2⟩
end
/-- after a loan: the own lists are the frame's again -/
theorem unlend {is : List Nat} {l0 l1 : Lc} {s1 : S} (ok : Sok K g l s σ) (e1 : l0.al = l.al) (e2 : l0.H = l.H) (e3 : ∀ a, l0.M a → l.M a) (e4 : ∀ i ∈ is, ∀ xs a, s.env[i]? = some (some (.own xs)) → σ[i]? = some (some (.ref a)) → ¬ l0.M a) (st1 : Step l0 l1) (ok1 : Sok K g l1 s1 σ) (hf : flatMs s1.mu = true)
    (e6 : ∀ (i : Nat) xs, s.env[i]? = some (some (.own xs)) → i ∈ is) :
    ∃ l', l'.H = l1.H ∧ Step l l' ∧ Sok K g l' ⟨s.env, s1.mu⟩ σ ∧ ∀ v u, flatP v = true → RepG K g l1 v u → RepG K g l' v u := by
  have own1 : ∀ (i : Nat) xs a, s.env[i]? = some (some (.own xs)) → σ[i]? = some (some (.ref a)) → ∃ vs, l.M a ∧ a ∉ l.al ∧ l.H a = some (.lst vs) ∧ RepGL K g l xs vs ∧ l1.H a = some (.lst vs) ∧ a ∉ l1.al := by
    intro i xs a h1 h2
    obtain ⟨b, vs, q1, q2, q3, q4, q5⟩ := ok.own i xs h1
    rw [h2] at q1
    cases q1
    have n0 := e4 i (e6 i xs h1) xs a h1 h2
    refine ⟨vs, q2, q3, q4, q5, st1.keep a _ n0 (by rw [e2]; exact q4), fun z => ?_⟩
    rcases st1.new a (ok1.alM a z) with y | y
    · exact n0 y
    · rw [e2, q4] at y; cases y
  have st : Step l ⟨l1.al, fun a => l1.M a ∨ ∃ (i : Nat) (xs : List PV), s.env[i]? = some (some (.own xs)) ∧ σ[i]? = some (some (.ref a)), l1.H⟩ := by
    refine ⟨by rw [← e1]; exact st1.pre, fun a h => ?_, fun a o n e => st1.keep a o (fun z => n (e3 a z)) (by rw [e2]; exact e), fun a h => st1.dom a (by rw [e2]; exact h)⟩
    rcases h with h | ⟨i, xs, h1, h2⟩
    · rcases st1.new a h with q | q
      · exact .inl (e3 a q)
      · exact .inr (by rw [← e2]; exact q)
    · obtain ⟨vs, q, _⟩ := own1 i xs a h1 h2
      exact .inl q
  have fl : ∀ a o, ¬ g.L l1 a → l1.H a = some o → (∀ vs, o ≠ .lst vs) → ¬ g.L ⟨l1.al, fun a => l1.M a ∨ ∃ (i : Nat) (xs : List PV), s.env[i]? = some (some (.own xs)) ∧ σ[i]? = some (some (.ref a)), l1.H⟩ a := by
    intro a o n h hv z
    rcases z with (z | ⟨i, xs, h1, h2⟩) | z
    · exact n (.inl z)
    · obtain ⟨vs, _, _, _, _, q, _⟩ := own1 i xs a h1 h2
      rw [h] at q
      cases q
      exact hv vs rfl
    · exact n (.inr z)
  refine ⟨⟨l1.al, fun a => l1.M a ∨ ∃ (i : Nat) (xs : List PV), s.env[i]? = some (some (.own xs)) ∧ σ[i]? = some (some (.ref a)), l1.H⟩, rfl, st, ⟨ok.len, fun i v h => ?_, fun i xs h => ?_, ok.dis, ok1.mlen, fun n a m h1 h2 => ?_, ok1.nd, fun a h => .inl (ok1.alM a h), fun a h => ?_, fun a h => ?_, fun x hx => (ok1.tabs x hx).to (.inl (ok1.tabs x hx).M) (ok1.tabs x hx).al (fun ps q => q) fun c q n e => ⟨e, fl c _ n e fun vs z => by cases z⟩⟩, fun v u hv r => Rep.fl8 fl v u hv r⟩
  · obtain ⟨u, h1, h2⟩ := ok.env i v h
    exact ⟨u, h1, st.rep h2⟩
  · obtain ⟨a, vs, h1, _⟩ := ok.own i xs h
    obtain ⟨vs, q1, q2, q3, q4, q5, q6⟩ := own1 i xs a h h1
    exact ⟨a, vs, h1, .inr ⟨i, xs, h, h1⟩, q6, q5, st.reps q4⟩
  · have q := ok1.mu n a m h1 h2
    have hm : flatM m = true := List.all_eq_true.mp hf m (List.mem_of_getElem? h2)
    cases m with
    | lst xs => obtain ⟨vs, r1, r2⟩ := q; exact ⟨vs, r1, RepL.fl8 fl _ _ hm r2⟩
    | ins C ns xs => obtain ⟨dx, vs, r1, r2, r3⟩ := q; exact ⟨dx, vs, r1, r2, RepL.fl8 fl _ _ hm r3⟩
    | nst C ns xs => obtain ⟨dx, vs, r1, r2, r3⟩ := q; exact ⟨dx, vs, r1, r2, RepL.fl8 fl _ _ hm r3⟩
    | dic ns xs => obtain ⟨vs, r1, r2, r9, r3⟩ := q; exact ⟨vs, r1, r2, r9, RepL.fl8 fl _ _ hm r3⟩
  · rcases h with (h | ⟨i, xs, h1, h2⟩) | h
    · exact ok1.there a (.inl h)
    · obtain ⟨vs, _, _, _, _, q, _⟩ := own1 i xs a h1 h2
      show l1.H a ≠ none
      rw [q]; simp
    · exact ok1.there a (.inr h)
  · rcases h with h | ⟨i, xs, h1, h2⟩
    · exact ok1.mn a h
    · obtain ⟨vs, q, _⟩ := own1 i xs a h1 h2
      exact ok.mn a q
end
/-- only these slots hold own lists -/
def ownIn (is : List Nat) (env : List (Option SV)) : Bool := (List.range env.length).all fun i => match env[i]? with
  | some (some (.own _)) => is.contains i
  | _ => true
theorem ownIn_ok {is : List Nat} {env : List (Option SV)} (h : ownIn is env = true) (i : Nat) (xs : List PV) (e : env[i]? = some (some (.own xs))) : i ∈ is := by
  have q := List.all_eq_true.mp h i (List.mem_range.mpr (List.getElem?_eq_some_iff.mp e).1)
  rw [e] at q
  simpa using q
@[simp] def dBor (is : List Nat) (d : DE) : DE := fun s => if ownIn is s.env = true then (match d (frozS is s) with
  | .ok v s1 => if flatP v = true ∧ flatMs s1.mu = true then .ok v ⟨s.env, s1.mu⟩ else .bad
  | _ => .bad) else .bad
@[simp] def dBorT (is : List Nat) (d : DT) : DT := fun s => if ownIn is s.env = true then (match d (frozS is s) with
  | .ok v s1 => if flatMs s1.mu = true then .ok v ⟨s.env, s1.mu⟩ else .bad
  | _ => .bad) else .bad
@[simp] def dRetF (is : List Nat) (d : DE) : DS := fun s => dRet d (frozS is s)
@[simp] def dFrz (is : List Nat) (d : DS) : DS := fun s => d (frozS is s)
section
variable {X : Cx} {g : Gx} {a b c e : Expr} {es : List Expr} {st : Stmt} {sts : List Stmt} {da db dc de : DE} {dt : DT} {ds : DS} {pos : Pos}
theorem j_bor {is : List Nat} (h : JE X g e de) : JE X g e (dBor is de) := PE.cq h fun pins s0 σ H Q I q => by
  obtain ⟨l, s, rfl, ok, q⟩ := q
  obtain ⟨l0, st0, e1, e2, e3, e4, ok0⟩ := freeze is ok
  refine ⟨l0, frozS is s, e2, ok0, ?_⟩
  simp only [dBor] at q
  by_cases hw : ownIn is s.env = true
  · rw [if_pos hw] at q
    cases e5 : de (frozS is s) with
    | bad => rw [e5] at q; exact q
    | exn x t => rw [e5] at q; exact q.elim
    | ok v s1 =>
      rw [e5] at q
      simp only at q
      by_cases hf : flatP v = true ∧ flatMs s1.mu = true
      · rw [if_pos hf] at q
        intro l1 u st1 ok1 r1
        obtain ⟨l', h1, h2, h3, h4⟩ := unlend ok e1 e2 e3 e4 st1 ok1 hf.2 (ownIn_ok hw)
        have := q l' u h2 h3 (h4 v u hf.1 r1)
        rw [h1] at this
        exact this
      · rw [if_neg hf] at q
        exact q.elim
  · rw [if_neg hw] at q
    exact q.elim
theorem lt_bor {K : PySem.W.Frag} (is : List Nat) {σ : St} {H : Hp} {Q : Bool → Hp → Prop} (q : LT K g (dBorT is dt) σ H Q) : LT K g dt σ H Q := by
  obtain ⟨l, s, rfl, ok, q⟩ := q
  obtain ⟨l0, st0, e1, e2, e3, e4, ok0⟩ := freeze is ok
  refine ⟨l0, frozS is s, e2, ok0, ?_⟩
  simp only [dBorT] at q
  by_cases hw : ownIn is s.env = true
  · rw [if_pos hw] at q
    cases e5 : dt (frozS is s) with
    | bad => rw [e5] at q; exact q
    | exn x t => rw [e5] at q; exact q.elim
    | ok v s1 =>
      rw [e5] at q
      simp only at q
      by_cases hf : flatMs s1.mu = true
      · rw [if_pos hf] at q
        intro l1 st1 ok1
        obtain ⟨l', h1, h2, h3, h4⟩ := unlend ok e1 e2 e3 e4 st1 ok1 hf (ownIn_ok hw)
        have := q l' h2 h3
        rw [h1] at this
        exact this
      · rw [if_neg hf] at q
        exact q.elim
  · rw [if_neg hw] at q
    exact q.elim
theorem jt_bor {is : List Nat} (h : JT X g e dt) : JT X g e (dBorT is dt) := PT.cq h fun σ H Q q => lt_bor is q
theorem ls_frz {K : PySem.W.Frag} (is : List Nat) {D : Ends} {σ : St} {H : Hp} (q : LS K g (dFrz is ds) D σ H) : LS K g ds D σ H := by
  obtain ⟨l, s, rfl, ok, q⟩ := q
  obtain ⟨l0, st0, e1, e2, e3, e4, ok0⟩ := freeze is ok
  exact ⟨l0, frozS is s, e2, ok0, RunS.step (r := ds (frozS is s)) q st0⟩
/-- from here on the lists are no more changed -/
theorem js_frz {is : List Nat} (h : JS X g st ds) : JS X g st (dFrz is ds) := PS.cq h fun pins s D σ H I q => ls_frz is q
end
end L3
namespace L3
open PySem PySem.Spec PyProof.Rows L2
abbrev Gx.hid (g : Gx) (P : List Addr) : Gx := ⟨g.CR, fun a => g.N a ∨ a ∈ P, g.W⟩
def RepSV (K : PySem.W.Frag) (g : Gx) (l : Lc) : List SV → List V → List Addr → Prop
  | [], us, P => us = [] ∧ P = []
  | .val v :: r, us, P => ∃ u us', us = u :: us' ∧ RepG K g l v u ∧ RepSV K g l r us' P
  | .own xs :: r, us, P => ∃ p vs us' P', us = .ref p :: us' ∧ P = p :: P' ∧ l.H p = some (.lst vs) ∧ RepGL K g l xs vs ∧ RepSV K g l r us' P'
abbrev DX := S → R S (List SV)
def RunX (K : PySem.W.Frag) (g : Gx) (r : R S (List SV)) (l : Lc) (σ : St) (Q : List V → Hp → Prop) : Prop := match r with
  | .ok svs s' => ∀ l' us P, Step l l' → (∀ p ∈ P, l.H p = none) → P.Nodup → Sok K (g.hid P) l' s' σ → RepSV K (g.hid P) l' svs us P → Q us l'.H
  | .exn e s' => ∀ l' cls dd, Step l l' → Sok K g l' s' σ → RepX K g l' e cls dd → g.W cls dd σ l'.H
  | .bad => False
def LX (K : PySem.W.Frag) (g : Gx) (d : DX) : TA := fun σ H Q => ∃ l s, l.H = H ∧ Sok K g l s σ ∧ RunX K g (d s) l σ Q
abbrev JX (X : Cx) (g : Gx) (es : List Expr) (d : DX) : Prop := PA X es (LX X.K g d)
@[simp] def xNil : DX := fun s => .ok [] s
@[simp] def xVal (d : DE) (r : DX) : DX := fun s => (d s).bind fun v s1 => (r s1).bind fun vs s2 => .ok (.val v :: vs) s2
@[simp] def xOwn (d : DL) (r : DX) : DX := fun s => (d s).bind fun v s1 => (r s1).bind fun vs s2 => .ok (.own v :: vs) s2
@[simp] def setX : List Nat → List SV → S → Option S
  | [], [], s => some s
  | j :: js, v :: vs, s => setX js vs ⟨s.env.set j (some v), s.mu⟩
  | _, _, _ => none
@[simp] def dAsgX (js : List Nat) (d : DX) : DS := fun s => (d s).bind fun vs s1 => match setX js vs s1 with
  | some s2 => .ok .nx s2
  | none => .bad
section
variable {K : PySem.W.Frag} {g : Gx} {l l' : Lc} {s : S} {σ : St}
theorem Gx.hid_nil : g.hid [] = g := by
  obtain ⟨CR, N, W⟩ := g
  show Gx.mk CR (fun a => N a ∨ a ∈ ([] : List Addr)) W = _
  congr 1
  funext a
  simp
theorem Gx.hid_cons {p : Addr} {P : List Addr} : Gx.hid ⟨g.CR, fun a => g.N a ∨ a = p, g.W⟩ P = g.hid (p :: P) := by
  show Gx.mk g.CR (fun a => (g.N a ∨ a = p) ∨ a ∈ P) g.W = Gx.mk g.CR (fun a => g.N a ∨ a ∈ p :: P) g.W
  congr 1
  funext a
  simp only [List.mem_cons]
  exact propext or_assoc
theorem hid_rep {P : List Addr} (st : Step l l') (hP : ∀ p ∈ P, l.H p = none) : ∀ a o, ¬ g.L l a → l.H a = some o → l'.H a = some o ∧ ¬ (g.hid P).L l' a := fun a o n e => by
  refine ⟨st.keep a o (fun z => n (.inl z)) e, fun z => ?_⟩
  rcases z with z | z | z
  · rcases st.new a z with q | q
    · exact n (.inl q)
    · rw [e] at q; cases q
  · exact n (.inr z)
  · rw [hP a z] at e; cases e
theorem hid_repG {P : List Addr} (st : Step l l') (hP : ∀ p ∈ P, l.H p = none) {x : PV} {v : V} (h : RepG K g l x v) : RepG K (g.hid P) l' x v := Rep.mono st.al (hid_rep st hP) x v h
theorem hid_repGL {P : List Addr} (st : Step l l') (hP : ∀ p ∈ P, l.H p = none) {x : List PV} {v : List V} (h : RepGL K g l x v) : RepGL K (g.hid P) l' x v := RepL.mono st.al (hid_rep st hP) x v h
theorem RepX.less {N' : Addr → Prop} {e : PV} {cls : Value} {dd : Option Addr} (hN : ∀ a, g.N a → N' a) (h : RepX K ⟨g.CR, N', g.W⟩ l e cls dd) : RepX K g l e cls dd := by
  obtain ⟨C, ns, xs, vs, h1, h2, h3, h4, h5⟩ := h
  have hL : ∀ a, g.L l a → Gx.L ⟨g.CR, N', g.W⟩ l a := fun a z => z.elim .inl fun z => .inr (hN a z)
  refine ⟨C, ns, xs, vs, h1, h2, h3, RepL.mono (fun _ _ h => h) (fun a o n e => ⟨e, fun z => n (hL a z)⟩) _ _ h4, ?_⟩
  rcases h5 with h5 | ⟨d, h5, h6, h7⟩
  · exact .inl h5
  · exact .inr ⟨d, h5, fun z => h6 (hL d z), h7⟩
theorem Sok.less {N' : Addr → Prop} (ok : Sok K ⟨g.CR, N', g.W⟩ l s σ) (hN : ∀ a, g.N a → N' a) : Sok K g l s σ := by
  have hL : ∀ a, g.L l a → Gx.L ⟨g.CR, N', g.W⟩ l a := fun a z => z.elim .inl fun z => .inr (hN a z)
  have rp : ∀ x v, Rep K g.CR l.al (Gx.L ⟨g.CR, N', g.W⟩ l) l.H x v → RepG K g l x v := fun x v h => Rep.mono (fun _ _ h => h) (fun a o n e => ⟨e, fun z => n (hL a z)⟩) x v h
  have rpl : ∀ x v, RepL K g.CR l.al (Gx.L ⟨g.CR, N', g.W⟩ l) l.H x v → RepGL K g l x v := fun x v h => RepL.mono (fun _ _ h => h) (fun a o n e => ⟨e, fun z => n (hL a z)⟩) x v h
  refine ⟨ok.len, fun i v e => ?_, fun i xs e => ?_, ok.dis, ok.mlen, fun n a m h1 h2 => ?_, ok.nd, ok.alM, fun a h => ok.there a (h.elim .inl fun z => .inr (hN a z)), fun a h z => ok.mn a h (hN a z), fun x hx => (ok.tabs x hx).to (ok.tabs x hx).M (ok.tabs x hx).al (fun ps q => q) fun c q n e => ⟨e, fun z => n (hL c z)⟩⟩
  · obtain ⟨u, h1, h2⟩ := ok.env i v e
    exact ⟨u, h1, rp _ _ h2⟩
  · obtain ⟨a, vs, h1, h2, h3, h4, h5⟩ := ok.own i xs e
    exact ⟨a, vs, h1, h2, h3, h4, rpl _ _ h5⟩
  · have q := ok.mu n a m h1 h2
    cases m with
    | lst xs => obtain ⟨vs, r1, r2⟩ := q; exact ⟨vs, r1, rpl _ _ r2⟩
    | ins C ns xs => obtain ⟨dx, vs, r1, r2, r3⟩ := q; exact ⟨dx, vs, r1, r2, rpl _ _ r3⟩
    | nst C ns xs => obtain ⟨dx, vs, r1, r2, r3⟩ := q; exact ⟨dx, vs, r1, r2, rpl _ _ r3⟩
    | dic ns xs => obtain ⟨vs, r1, r2, r9, r3⟩ := q; exact ⟨vs, r1, r2, r9, rpl _ _ r3⟩
/-- a hidden new list comes into a slot -/
theorem ownHid {p : Addr} {P : List Addr} {j : Nat} {xs : List PV} {vs : List V} (ok : Sok K (g.hid (p :: P)) l s σ) (hp : l.H p = some (.lst vs)) (r : RepGL K (g.hid (p :: P)) l xs vs) (hn : p ∉ P) (hg : ¬ g.N p) :
    Sok K (g.hid P) ⟨l.al, fun a => l.M a ∨ a = p, l.H⟩ ⟨s.env.set j (some (.own xs)), s.mu⟩ (σ.set j (some (.ref p))) ∧ ∀ {x v}, RepG K (g.hid (p :: P)) l x v → RepG K (g.hid P) ⟨l.al, fun a => l.M a ∨ a = p, l.H⟩ x v := by
  have hL : ∀ a, (g.hid P).L ⟨l.al, fun a => l.M a ∨ a = p, l.H⟩ a → (g.hid (p :: P)).L l a := fun a z => by
    rcases z with (z | z) | z | z
    · exact .inl z
    · exact .inr (.inr (by rw [z]; exact List.mem_cons_self))
    · exact .inr (.inl z)
    · exact .inr (.inr (List.mem_cons_of_mem _ z))
  have rp : ∀ {x v}, RepG K (g.hid (p :: P)) l x v → RepG K (g.hid P) ⟨l.al, fun a => l.M a ∨ a = p, l.H⟩ x v := fun h => Rep.mono (fun _ _ h => h) (fun a o n e => ⟨e, fun z => n (hL a z)⟩) _ _ h
  have rpl : ∀ {x v}, RepGL K (g.hid (p :: P)) l x v → RepGL K (g.hid P) ⟨l.al, fun a => l.M a ∨ a = p, l.H⟩ x v := fun h => RepL.mono (fun _ _ h => h) (fun a o n e => ⟨e, fun z => n (hL a z)⟩) _ _ h
  have nM : ¬ l.M p := fun z => ok.mn p z (.inr List.mem_cons_self)
  refine ⟨⟨by show (s.env.set j _).length = _; rw [List.length_set, List.length_set]; exact ok.len, fun i v h => ?_, fun i zs h => ?_, fun i k zs ws b n q1 q2 q3 q4 => ?_, ok.mlen, fun n b m q1 q2 => ?_, ok.nd, fun a h => .inl (ok.alM a h), fun b h => ?_, fun b h => ?_, fun x hx => (ok.tabs x hx).to (.inl (ok.tabs x hx).M) (ok.tabs x hx).al (fun ps q => q) fun c q n e => ⟨e, fun z => n (hL c z)⟩⟩, rp⟩
  · rcases get_set h with ⟨_, e, _⟩ | ⟨e, h⟩
    · cases e
    · obtain ⟨u, h1, h2⟩ := ok.env i v h
      exact ⟨u, by rw [List.getElem?_set_ne (Ne.symm e)]; exact h1, rp h2⟩
  · rcases get_set h with ⟨e1, e2, e3⟩ | ⟨e, h⟩
    · cases e2
      subst e1
      exact ⟨p, vs, by rw [List.getElem?_set_self (by rw [← ok.len]; exact e3)], .inr rfl, fun z => nM (ok.alM p z), hp, rpl r⟩
    · obtain ⟨a, ws, h1, h2, h3, h4, h5⟩ := ok.own i zs h
      exact ⟨a, ws, by rw [List.getElem?_set_ne (Ne.symm e)]; exact h1, .inl h2, h3, h4, rpl h5⟩
  · have two : ∀ (i : Nat) zs b, (s.env.set j (some (.own xs)))[i]? = some (some (.own zs)) → (σ.set j (some (.ref p)))[i]? = some (some (.ref b)) → (i = j ∧ b = p) ∨ (i ≠ j ∧ s.env[i]? = some (some (.own zs)) ∧ σ[i]? = some (some (.ref b))) := fun i zs b h1 h2 => by
      rcases get_set h1 with ⟨e1, _, e3⟩ | ⟨e, h1⟩
      · subst e1
        rw [List.getElem?_set_self (by rw [← ok.len]; exact e3)] at h2
        cases h2
        exact .inl ⟨rfl, rfl⟩
      · rw [List.getElem?_set_ne (Ne.symm e)] at h2
        exact .inr ⟨e, h1, h2⟩
    have inM : ∀ (i : Nat) zs, s.env[i]? = some (some (.own zs)) → σ[i]? = some (some (.ref p)) → False := fun i zs h1 h2 => by
      obtain ⟨a, _, h3, h4, _⟩ := ok.own i zs h1
      rw [h2] at h3
      cases h3
      exact nM h4
    rcases two i zs b q1 q3 with ⟨e1, e2⟩ | ⟨e1, h1, h2⟩
    · subst e2
      rcases two k ws b q2 q4 with ⟨e3, _⟩ | ⟨_, h3, h4⟩
      · exact n (e1.trans e3.symm)
      · exact inM k ws h3 h4
    · rcases two k ws b q2 q4 with ⟨e3, e4⟩ | ⟨_, h3, h4⟩
      · subst e4
        exact inM i zs h1 h2
      · exact ok.dis i k zs ws b n h1 h3 h2 h4
  · have q := ok.mu n b m q1 q2
    cases m with
    | lst xs => obtain ⟨vs, r1, r2⟩ := q; exact ⟨vs, r1, rpl r2⟩
    | ins C ns xs => obtain ⟨dx, vs, r1, r2, r3⟩ := q; exact ⟨dx, vs, r1, r2, rpl r3⟩
    | nst C ns xs => obtain ⟨dx, vs, r1, r2, r3⟩ := q; exact ⟨dx, vs, r1, r2, rpl r3⟩
    | dic ns xs => obtain ⟨vs, r1, r2, r9, r3⟩ := q; exact ⟨vs, r1, r2, r9, rpl r3⟩
  · rcases h with (h | h) | h | h
    · exact ok.there b (.inl h)
    · exact ok.there b (.inr (.inr (by rw [h]; exact List.mem_cons_self)))
    · exact ok.there b (.inr (.inl h))
    · exact ok.there b (.inr (.inr (List.mem_cons_of_mem _ h)))
  · rcases h with h | h
    · exact fun z => ok.mn b h (z.elim .inl fun z => .inr (List.mem_cons_of_mem _ z))
    · subst h
      exact fun z => z.elim hg hn
@[simp] def setσ : List Nat → List V → St → St
  | j :: js, v :: vs, σ => setσ js vs (σ.set j (some v))
  | _, _, σ => σ
theorem RepSV.imp {g' : Gx} {l' : Lc} (h : ∀ {x v}, RepG K g l x v → RepG K g' l' x v) (hl : ∀ {x v}, RepGL K g l x v → RepGL K g' l' x v) (hH : l'.H = l.H) : ∀ {svs : List SV} {us : List V} {P : List Addr}, RepSV K g l svs us P → RepSV K g' l' svs us P
  | [], us, P, q => q
  | .val v :: r, us, P, q => by
    obtain ⟨u, us', e, h1, h2⟩ := q
    exact ⟨u, us', e, h h1, RepSV.imp h hl hH h2⟩
  | .own xs :: r, us, P, q => by
    obtain ⟨p, vs, us', P', e1, e2, h1, h2, h3⟩ := q
    exact ⟨p, vs, us', P', e1, e2, by rw [hH]; exact h1, hl h2, RepSV.imp h hl hH h3⟩
theorem setAll : ∀ {js : List Nat} {svs : List SV} {us : List V} {P : List Addr} {l : Lc} {s s2 : S} {σ : St}, Sok K (g.hid P) l s σ → RepSV K (g.hid P) l svs us P → P.Nodup → (∀ p ∈ P, ¬ g.N p) → setX js svs s = some s2 →
    us.length = js.length ∧ ∃ l', l'.H = l.H ∧ l'.al = l.al ∧ (∀ a, l.M a → l'.M a) ∧ (∀ a, l'.M a → l.M a ∨ a ∈ P) ∧ Sok K g l' s2 (setσ js us σ)
  | [], [], us, P, l, s, s2, σ, ok, r, nd, hN, e => by
    obtain ⟨rfl, rfl⟩ := r
    cases e
    rw [Gx.hid_nil] at ok
    exact ⟨rfl, l, rfl, rfl, fun _ h => h, fun _ h => .inl h, ok⟩
  | [], v :: vs, us, P, l, s, s2, σ, ok, r, nd, hN, e => by simp at e
  | j :: js, [], us, P, l, s, s2, σ, ok, r, nd, hN, e => by simp at e
  | j :: js, .val v :: svs, us, P, l, s, s2, σ, ok, r, nd, hN, e => by
    obtain ⟨u, us', rfl, h1, h2⟩ := r
    have e : setX js svs (setE j v s) = some s2 := e
    obtain ⟨q1, l', q2, q3, q4, q5, q6⟩ := setAll (ok.set (i := j) h1) h2 nd hN e
    exact ⟨by simpa using q1, l', q2, q3, q4, q5, q6⟩
  | j :: js, .own xs :: svs, us, P, l, s, s2, σ, ok, r, nd, hN, e => by
    obtain ⟨p, vs, us', P', rfl, rfl, h1, h2, h3⟩ := r
    rw [List.nodup_cons] at nd
    obtain ⟨ok2, rp⟩ := ownHid (j := j) ok h1 h2 nd.1 (hN p List.mem_cons_self)
    have e : setX js svs ⟨s.env.set j (some (.own xs)), s.mu⟩ = some s2 := e
    have rpl : ∀ {x v}, RepGL K (g.hid (p :: P')) l x v → RepGL K (g.hid P') ⟨l.al, fun a => l.M a ∨ a = p, l.H⟩ x v := fun h => by
      rw [RepGL, RepL.iff] at h ⊢
      exact ⟨h.1, fun i y e => let ⟨w, h1, h2⟩ := h.2 i y e; ⟨w, h1, rp h2⟩⟩
    obtain ⟨q1, l', q2, q3, q4, q5, q6⟩ := setAll ok2 (RepSV.imp rp rpl rfl h3) nd.2 (fun a h => hN a (List.mem_cons_of_mem _ h)) e
    refine ⟨by simpa using q1, l', q2, q3, fun a h => q4 a (.inl h), fun a h => ?_, q6⟩
    rcases q5 a h with (z | z) | z
    · exact .inl z
    · exact .inr (by rw [z]; exact List.mem_cons_self)
    · exact .inr (List.mem_cons_of_mem _ z)
end
section
variable {X : Cx} {g : Gx} {a b c e : Expr} {es : List Expr} {da db dc de : DE} {dl : DL} {dx : DX} {pos : Pos}
theorem jx_nil : JX X g [] xNil := PA.cq pa_nil fun σ H Q q => by
  obtain ⟨l, s, rfl, ok, q⟩ := q
  exact q l [] [] (Step.refl l) (fun p h => by simp at h) List.nodup_nil (by rw [Gx.hid_nil]; exact ok) ⟨rfl, rfl⟩
theorem jx_val {dr : DX} (he : JE X g e de) (hr : JX X g es dr) (hs : starEach (e :: es) X.env = (false, eval e X.env) :: starEach es X.env := by rfl) : JX X g (e :: es) (xVal de dr) := PA.cq (pa_cons he hr hs) fun σ H Q q => by
  obtain ⟨l, s, rfl, ok, q⟩ := q
  refine ⟨l, s, rfl, ok, ?_⟩
  simp only [xVal] at q
  cases e1 : de s with
  | bad => rw [e1] at q; exact q
  | exn x t => rw [e1] at q; exact q
  | ok v t =>
    rw [e1] at q
    intro l1 u st1 ok1 r1
    refine ⟨l1, t, rfl, ok1, ?_⟩
    simp only [R.bind] at q
    cases e2 : dr t with
    | bad => rw [e2] at q; exact q
    | exn x t2 => rw [e2] at q; exact fun l' c d st' => q l' c d (st1.trans st')
    | ok svs t2 =>
      rw [e2] at q
      intro l2 us P st2 hP nd ok2 r2
      exact q l2 (u :: us) P (st1.trans st2) (fun p hp => by
        cases z : l.H p with
        | none => rfl
        | some o => exact absurd (hP p hp) (st1.dom p (by rw [z]; simp))) nd ok2 ⟨u, us, rfl, hid_repG st2 hP r1, r2⟩
theorem jx_own {dr : DX} (he : JF X g e dl) (hr : ∀ N, JX X ⟨g.CR, N, g.W⟩ es dr) (hs : starEach (e :: es) X.env = (false, eval e X.env) :: starEach es X.env := by rfl) : JX X g (e :: es) (xOwn dl dr) := by
  refine ⟨fun pos pins s0 σ H Q I q => ?_⟩
  obtain ⟨l, s, rfl, ok, q⟩ := q
  show wpAny (model X.prog X.w) X.A (spliced (backTo pos (starEach (e :: es) X.env))) _ X.xe s0
  -- the rest, read at any hidden part
  have rest : PA X es (fun σ H Q => ∃ N, LX X.K ⟨g.CR, N, g.W⟩ dr σ H Q) := ⟨fun pos pins s σ H Q I q => let ⟨N, q⟩ := q; (hr N).run pos pins s σ H Q I q⟩
  refine (pa_cons he rest hs).run pos pins s0 σ l.H Q I ⟨l, s, rfl, ok, ?_⟩
  simp only [xOwn] at q
  cases e1 : dl s with
  | bad => rw [e1] at q; exact q
  | exn x t => rw [e1] at q; exact q
  | ok xs t =>
    rw [e1] at q
    intro l1 us p st1 ok1 r1 hp
    have st1' : Step l1 ⟨l1.al, l1.M, upd l1.H p (.lst us)⟩ := Step.alloc hp
    have ne : ∀ a o, l1.H a = some o → a ≠ p := fun a o h => ne_of_none h hp
    refine ⟨fun a => g.N a ∨ a = p, ⟨l1.al, l1.M, upd l1.H p (.lst us)⟩, t, rfl, ok1.to rfl rfl rfl (fun a o _ h => by show upd l1.H p _ a = some o; rw [upd_ne (ne a o h)]; exact h) (fun a o n h z => z.elim n (ne a o h)) (fun a h => ?_), ?_⟩
    · show upd l1.H p _ a ≠ none
      rcases h with h | h | h
      · exact upd_there (ok1.there a (.inl h))
      · exact upd_there (ok1.there a (.inr h))
      · rw [h, upd_same]; simp
    · simp only [R.bind] at q
      cases e2 : dr t with
      | bad => rw [e2] at q; exact q
      | exn x t2 => rw [e2] at q; exact fun l' c d st' ok' rx => q l' c d ((st1.trans st1').trans st') (ok'.less fun a h => .inl h) (rx.less fun a h => .inl h)
      | ok svs t2 =>
        rw [e2] at q
        intro l2 us2 P st2 hP nd ok2 r2
        have np : p ∉ P := fun z => by
          have := hP p z
          have e : upd l1.H p (.lst us) p = none := this
          rw [upd_same] at e
          cases e
        have hP1 : ∀ a ∈ P, l1.H a = none := fun a h => by
          have e : upd l1.H p (.lst us) a = none := hP a h
          rw [upd_ne (fun z => np (by rw [← z]; exact h))] at e
          exact e
        have hP2 : ∀ a ∈ p :: P, l1.H a = none := fun a h => (List.mem_cons.mp h).elim (fun z => by rw [z]; exact hp) (hP1 a)
        have back : ∀ a, l1.H a = none → l.H a = none := fun a h => by
          cases z : l.H a with
          | none => rfl
          | some o => exact absurd h (st1.dom a (by rw [z]; simp))
        rw [Gx.hid_cons] at ok2 r2
        have nM : ¬ l1.M p := fun z => ok1.there p (.inl z) hp
        exact q l2 (.ref p :: us2) (p :: P) ((st1.trans st1').trans st2) (fun a h => back a (hP2 a h)) (List.nodup_cons.mpr ⟨np, nd⟩) ok2 ⟨p, us, us2, P, rfl, rfl, st2.keep p _ nM upd_same, hid_repGL (st1'.trans st2) hP2 r1, r2⟩
end
end L3
namespace L3
open PySem
open Sem (wp)
open AutoSeq1 (wpAny_loadPart')
theorem meets_enum_newT (l : Addr) (ys : Array Value) (n : Nat) (dc0 : Option Addr) (sl0 : Array (Option Value)) :
    Meets (Builtin.«enumerate.__new__» ⟨[.type "enumerate", .ref l], []⟩) (fun _ R s => s.heap.get? l = some { cls := .type "tuple", dict := dc0, data := .seq ys n, slots := sl0 } ∧
      R (.ok (.ret (.ref (s.heap.push { cls := .type "tuple_iterator", data := .fields #[.ref l, .int 0 0] }).objs.size)))
        { s with heap := (s.heap.push { cls := .type "tuple_iterator", data := .fields #[.ref l, .int 0 0] }).push { cls := .type "enumerate", data := .fields #[.none, .bool false, .ref s.heap.objs.size, rawInt 0, .none, .none] } }) :=
  Meets.of_wp fun pg wl ar R s h => by
    obtain ⟨hp0, g, d, tk0, os0⟩ := s; obtain ⟨hat, h⟩ := h
    have hsubE := sub_enumerate
    have hLt : Heap.IsTuple (Shared.heap ⟨hp0, g, d, tk0, os0⟩) l ys := ⟨_, hat, rfl, n, rfl⟩
    wp_walk using wpAny_loadPart' hat
    refine wpAny_stack_any (fun _ => wpAny_pure ?_)
    split
    · rename_i c _ _ _ _ _
      rcases (c == Value.type "enumerate") with _ | _
      · wp_walk using wpAny_loadPart' hat, wpAny_pyIter_tuple hLt
        exact ⟨_, rfl, h⟩
      · wp_walk using wpAny_loadPart' hat, wpAny_pyIter_tuple hLt
        exact ⟨_, rfl, h⟩
    · wp_walk using wpAny_loadPart' hat, wpAny_pyIter_tuple hLt
      exact ⟨_, rfl, h⟩
section
variable {prog : Program} {w : World} {A : Around} {E : Value → Shared → Prop} {s : Shared}
theorem call_enum_tuple {l : Addr} {ys : Array Value} {Q : Value → Shared → Prop} (hLt : s.heap.IsTuple l ys)
    (h : ∀ g1, IsEnum g1 (s.heap.objs.size + 1) s.heap.objs.size 0 .none → g1.IsTupleIter s.heap.objs.size l 0 → g1.objs.size = s.heap.objs.size + 2 →
      (∀ b o, s.heap.get? b = some o → g1.get? b = some o) → Q (.ref (s.heap.objs.size + 1)) { s with heap := g1 }) :
    wpAny (model prog w) A (call (.type "enumerate") [.ref l]) Q E s := by
  obtain ⟨⟨c, dc0, dt0, sl0⟩, hat, hcls, n, hda⟩ := hLt
  replace hcls : c = .type "tuple" := hcls
  replace hda : dt0 = .seq ys n := hda
  subst hcls hda
  refine callType_new F.called_enumerate (by decide) (F.typeCall_enumerate_1 _) (F.newCall_enumerate_1 _) (fun obj => F.args_object_init_2 obj _) F.entry_enumerate_new
    (meets_enum_newT l ys n dc0 sl0) ⟨hat, ?_⟩
  have hz : (s.heap.push { cls := .type "tuple_iterator", data := .fields #[.ref l, .int 0 0] }).objs.size = s.heap.objs.size + 1 := Heap.size_push ..
  show _ ∧ _
  rw [hz]
  have heA : IsEnum ((s.heap.push { cls := .type "tuple_iterator", data := .fields #[.ref l, .int 0 0] }).push
      { cls := .type "enumerate", data := .fields #[.none, .bool false, .ref s.heap.objs.size, rawInt 0, .none, .none] }) (s.heap.objs.size + 1) s.heap.objs.size 0 .none := by
    have := Heap.get?_push_size (s.heap.push { cls := .type "tuple_iterator", data := .fields #[.ref l, .int 0 0] })
      (o := { cls := .type "enumerate", data := .fields #[.none, .bool false, .ref s.heap.objs.size, rawInt 0, .none, .none] }) rfl
    rw [hz] at this; exact this
  refine ⟨⟨_, heA, rfl⟩, h _ heA ⟨_, Heap.get?_push_of_some _ (Heap.get?_push_size _ rfl), rfl, rfl⟩ (by rw [Heap.size_push, hz]) fun b o x => Heap.get?_push_of_some _ (Heap.get?_push_of_some _ x)⟩
theorem draws_tup {l it : Addr} {ys : Array Value} (hhd : A.handled = none) (hne : l ≠ it) : Draws prog w A it [it, l] ys.size (fun i x => ys[i]? = some x) (fun i h => h.IsTupleIter it l i ∧ h.IsTuple l ys) where
  live := fun i h stk => let ⟨⟨o, e, _⟩, _⟩ := stk; ⟨o, e⟩
  frame := fun i h g1 stk k => by
    obtain ⟨stk, o, e, r⟩ := stk
    exact ⟨stk.at fun o q => k it (by simp) o q, o, k l (by simp) o e, r⟩
  item := fun i s Q E hi stk hQ0 => by
    obtain ⟨stk, ht⟩ := stk
    refine RZ.nextOf_tuple_item stk ht (x := ys[i]) (by simp [hi]) fun g1 stB sb => ?_
    obtain ⟨o, e, r⟩ := ht
    exact hQ0 _ g1 s.toks (by simp [hi]) ⟨stB, o, (sb.2 l hne).trans e, r⟩ sb
  done := fun s Q E stk hE => by
    obtain ⟨stk, ht⟩ := stk
    exact RZ.nextOf_tuple_end hhd stk ht (by simp) hE
theorem pyNext_enumT_end {e it l : Addr} {i : Nat} {ys : Array Value} {old : Value} {Q : Option Value → Shared → Prop} (hhd : A.handled = none)
    (heA : IsEnum s.heap e it i old) (hItA : s.heap.IsTupleIter it l i) (hat : s.heap.IsTuple l ys) (hxL : ys[i]? = none)
    (hQ0 : ∀ g1, Heap.ExtBut it s.heap g1 → Q none { s with heap := g1 }) : wpAny (model prog w) A (pyNext (.ref e)) Q E s := by
  have hTe : s.TypeIs (.ref e) "enumerate" := ⟨_, heA, rfl⟩
  unfold pyNext
  refine wpAny_bind (wpAny_attempt (wpAny_callSpecial?_slot (name := Str.ofString "__next__") hTe F.slot_enumerate_next
    (wpAny_call_entry F.slot_enumerate_next hTe F.entry_enumerate_next ?_ (F.args_enumerate_next_1 _))))
  show wpAny _ _ (field (.ref e) 2 >>= _) _ _ _
  refine wpAny_bind (wpAny_field heA rfl (x := .ref it) rfl ?_)
  refine wpAny_bind (RZ.nextOf_tuple_end hhd hItA hat hxL fun g1 x heB hxB => ?_)
  obtain ⟨o, ho0, hcls⟩ := hxB
  refine wpAny_bind (wpAny_isInstance (T := "StopIteration") (b := true) ⟨o, ho0, hcls⟩ isSubtype_stop ?_)
  exact wpAny_pure (hQ0 _ heB)
end
end L3
namespace L3
open PySem PySem.Spec PyProof.Rows L2
def IteT (K : PySem.W.Frag) (a : Addr) : It :=
  ⟨fun i H => ∃ (xs : List V) (x : V), SqT K H a xs ∧ xs[i]? = some x, fun i H v H' => ∃ T x, v = .ref T ∧ H T = none ∧ H' = upd H T (.tup [.int (i : Nat), x]) ∧ ∀ xs, SqT K H a xs → xs[i]? = some x, fun i H => ∃ xs : List V, SqT K H a xs ∧ xs.length ≤ i⟩
theorem turn_enumT {P : Program} {w : World} {K : PySem.W.Frag} {elts : List Expr} {kk : Nat} {tpos : Pos} (a e it : Addr) :
    Turn P w K (.Tuple elts kk tpos) (IteT K a) [e, it] e (fun i h => (∃ old, IsEnum h e it ((i : Nat) : Int) old) ∧ h.IsTupleIter it a i ∧ e ≠ it ∧ a ≠ it ∧ e ≠ a) where
  mem := by simp
  obj := fun i h st b hb => by
    obtain ⟨⟨old, heA⟩, ⟨o, ho, hc, hd⟩, _⟩ := st
    have eb1 : b = e ∨ b = it := by simpa using hb
    rcases eb1 with z | z
    · rw [z]; exact ⟨_, heA, fun v q => nomatch q⟩
    · rw [z]; exact ⟨o, ho, fun v q => by rw [hd] at q; cases q⟩
  keep := fun i h g1 st k => let ⟨⟨old, heA⟩, hi, hne⟩ := st; ⟨⟨old, k e (by simp) _ heA⟩, hi.at fun o q => k it (by simp) o q, hne⟩
  item := by
    intro X hPr hw hK hc i pins s σ H E I hfL st hg
    subst hPr hw hK
    obtain ⟨⟨old, heA⟩, hItA, hne, hai, hea⟩ := st
    obtain ⟨xs, x, hqL, hxL⟩ := hg
    obtain ⟨arr, rvl, p, hz⟩ := I.tuple hqL
    obtain ⟨u, hu, ru⟩ := rvl.get hxL
    have heL : e < s.heap.objs.size := Heap.lt_size heA
    have hiL : it < s.heap.objs.size := by obtain ⟨_, q, _⟩ := hItA; exact Heap.lt_size q
    have hlt : i < arr.toArray.size := by
      rw [List.size_toArray]
      exact (List.getElem?_eq_some_iff.mp hu).1
    refine wpAny_pyNext_enum_itemD (draws_tup (A := X.A.in1) (I.ok.hd hc) hai) heA ⟨hItA, show s.heap.IsTuple a arr.toArray from p⟩ hlt hne (by simp [hne, hea]) fun x' g1 tk hP' ho hItB hTy hSz hKp => ?_
    have ex : x' = u := by
      have h1 : arr[i]? = some x' := by simpa using hP'
      rw [h1] at hu
      exact (Option.some.inj hu)
    subst ex
    refine ⟨_, rfl, wpAny_letOwnedTupleGo_enum (s := { s with heap := g1, toks := tk + 1 }) ho fun g2 heB sb => ?_⟩
    have hTyB : g2.get? s.heap.objs.size = some { cls := .type "tuple", data := .seq #[.int i tk, x'] } := (sb.2 _ (Nat.ne_of_gt heL)).trans hTy
    have new : ObjOk X.prog X.w (upd H s.heap.objs.size (.tup [.int (i : Nat), x])) g2 s.heap.objs.size (.tup [.int (i : Nat), x]) :=
      ⟨by show 2 ≤ sizeLine; decide, [.int i tk, x'], .cons ⟨_, rfl⟩ (.cons ru .nil), ⟨_, hTyB, rfl, _, rfl⟩⟩
    have Inv1 : Inv X pins σ (upd H s.heap.objs.size (.tup [.int (i : Nat), x])) { s with heap := g2, toks := tk + 1 } :=
      I.turnedNew (ch := [e, it]) (fun b ob hb q => (sb.2 b (fun z => hb (by simp [z]))).trans (hKp b ob (fun z => hb (by simp [z])) (fun z => hb (by simp [z])) q)) hfL (Nat.le_refl _) new
    refine ⟨.ref s.heap.objs.size, _, Inv1, rfl, ⟨_, x, rfl, I.hok.fresh (Nat.le_refl _), rfl, fun ys hy => by rw [I.tuple_inj hy hqL]; exact hxL⟩, ⟨⟨x', ?_⟩, hItB.1.at fun o q => (sb.2 it (Ne.symm hne)).trans q, hne, hai, hea⟩, fun b hb => ?_⟩
    · have e1 : ((i + 1 : Nat) : Int) = (i : Int) + 1 := by omega
      rw [e1]; exact heB
    · have hbL : b < s.heap.objs.size := by
        have eb1 : b = e ∨ b = it := by simpa using hb
        rcases eb1 with z | z
        · rw [z]; exact heL
        · rw [z]; exact hiL
      rw [upd_ne (Nat.ne_of_lt hbL)]
      exact (hfL b hb).1
  done := by
    intro X hPr hw hK hc i pins s σ H E I hfL st hg
    subst hPr hw hK
    obtain ⟨⟨old, heA⟩, hItA, hne, hai, hea⟩ := st
    obtain ⟨xs, hqL, hxL⟩ := hg
    obtain ⟨arr, rvl, p, hz⟩ := I.tuple hqL
    obtain ⟨w0, w1, w2, w3, w4, w5⟩ := hfL it (by simp)
    have hl := rvl.length
    exact pyNext_enumT_end (I.ok.hd hc) heA hItA (show s.heap.IsTuple a arr.toArray from p) (by simp; omega) fun g1 eb => ⟨rfl, I.turned (t' := s.toks) (fun b o hb q => eb b o hb q) w0 w1 w3 w4 w5⟩
  self := fun A i s Q E st h => let ⟨⟨_, heA⟩, _⟩ := st; wpAny_pyIter_enum heA h
def iEnumA (K : PySem.W.Frag) (ta : TA) : TI := fun σ H R => ta σ H fun vs H1 => ∃ a xs, vs = [.ref a] ∧ ((SqL K H1 a xs ∧ R (Ite K a) H1) ∨ (SqT K H1 a xs ∧ R (IteT K a) H1))
theorem pi_enumA {X : Cx} {e : Expr} {ta : TA} {p pos tpos : Pos} {elts : List Expr} {kk : Nat} (hg : Gl X "enumerate") (hm : X.mg "enumerate" = none) (ha : PA X [e] ta) (hs : starEach [e] X.env = [(false, eval e X.env)] := by rfl) :
    PI X (.Tuple elts kk tpos) (.Call (.Name "enumerate" p) [e] [] pos) (iEnumA X.K ta) := by
  refine ⟨fun pins s σ H R I h => ?_⟩
  refine Call_ (ld_blt I hg hm boot_enumerate (PyProof.Rows.callWith_type1 (thn (ha.run pos pins s σ H _ I h) fun us s1 ⟨vs, H1, Inv1, r1, qq⟩ => ?_) hs rfl))
  obtain ⟨a, xs, ex, hqL⟩ := qq
  subst ex
  cases r1 with
  | cons r rr =>
    cases rr
    cases r
    have fpsL : ∀ b, b = s1.heap.objs.size + 1 ∨ b = s1.heap.objs.size → s1.heap.objs.size ≤ b := fun b eb1 => by
      rcases eb1 with z | z
      · rw [z]; exact Nat.le_add_right _ _
      · rw [z]; exact Nat.le_refl _
    rcases hqL with ⟨hqL, q⟩ | ⟨hqL, q⟩
    · obtain ⟨arr, rvl, pB, hz⟩ := Inv1.list hqL
      refine call_enumerate_list pB.isList fun g1 heA hItA hSz hKp => wpAny_pyIter_enum heA ?_
      have Inv2 : Inv X pins σ H1 { s1 with heap := g1 } := Inv1.kept (t' := s1.toks) hKp
      refine ⟨s1.heap.objs.size + 1, [s1.heap.objs.size + 1, s1.heap.objs.size], _, _, H1, rfl, Inv2, turn_enum a (s1.heap.objs.size + 1) s1.heap.objs.size, ⟨⟨.none, heA⟩, hItA, Nat.succ_ne_self _⟩, fun b hb => ?_, q⟩
      have hle := fpsL b (by simpa using hb)
      exact Inv1.fpOk hle (Inv1.hok.fresh hle)
    · obtain ⟨arr, rvl, pB, hz⟩ := Inv1.tuple hqL
      have hla : a < s1.heap.objs.size := by
        obtain ⟨o, e, _⟩ := (show s1.heap.IsTuple a arr.toArray from pB)
        exact Heap.lt_size e
      refine call_enum_tuple (show s1.heap.IsTuple a arr.toArray from pB) fun g1 heA hItA hSz hKp => wpAny_pyIter_enum heA ?_
      have Inv2 : Inv X pins σ H1 { s1 with heap := g1 } := Inv1.kept (t' := s1.toks) hKp
      refine ⟨s1.heap.objs.size + 1, [s1.heap.objs.size + 1, s1.heap.objs.size], _, _, H1, rfl, Inv2, turn_enumT a (s1.heap.objs.size + 1) s1.heap.objs.size, ⟨⟨.none, heA⟩, hItA, Nat.succ_ne_self _, Nat.ne_of_lt hla, Nat.ne_of_gt (Nat.lt_succ_of_lt hla)⟩, fun b hb => ?_, q⟩
      have hle := fpsL b (by simpa using hb)
      exact Inv1.fpOk hle (Inv1.hok.fresh hle)
section
variable {g : Gx}
theorem it_enumT {K : PySem.W.Frag} {l0 : Lc} {a : Addr} {vs : List V} {xs : List PV} (hn : ∀ l, Step l0 l → SqT K l.H a vs) (rvl : RepGL K g l0 xs vs) : ItOk K g l0 (IteT K a) (enumP xs) := fun i g' l st ec hN th => by
  have h1 := hn l st
  have hl : (enumP xs).length = xs.length := by simp [enumP]
  refine ⟨fun x hxL => ?_, fun hxL => ⟨vs, h1, by rw [← rvl.length, ← hl]; exact hxL⟩⟩
  obtain ⟨y, hy, rfl⟩ := enumP_get hxL
  obtain ⟨v, hv, r⟩ := rvl.get hy
  refine ⟨⟨vs, v, h1, hv⟩, fun u H' z => ?_⟩
  obtain ⟨T, w, rfl, hTy, rfl, z⟩ := z
  have ew : w = v := by have := z vs h1; rw [hv] at this; exact (Option.some.inj this).symm
  subst ew
  exact ⟨upd_keep hTy, fun l1 ea eM eH => pair_rep hTy (fun z => th T z hTy) ea eM eH rfl (st.rep2 ec hN r)⟩
@[simp] def iEnumQ (d : DA) : DI := fun s => (d s).bind fun vs s1 => match vs with
  | [.lst xs] => .ok (enumP xs) s1
  | [.tup xs] => .ok (enumP xs) s1
  | _ => .bad
variable {X : Cx} {a : Expr} {dr : DA} {pos : Pos}
theorem ji_enumA {p tpos : Pos} {elts : List Expr} {kk : Nat} (ha : JA X g [a] dr) (hm : X.mg "enumerate" = none) (hg : Gl X "enumerate" := by rfl) (hs : starEach [a] X.env = [(false, eval a X.env)] := by rfl) : JI X g (.Tuple elts kk tpos) (.Call (.Name "enumerate" p) [a] [] pos) (iEnumQ dr) :=
  PI.cq (pi_enumA hg hm ha hs) fun pins s σ H Q I q => by
    obtain ⟨l, s, rfl, ok, q⟩ := q
    refine ⟨l, s, rfl, ok, ?_⟩
    simp only [iEnumQ] at q
    cases e1 : dr s with
    | bad => rw [e1] at q; exact q
    | exn e t => rw [e1] at q; exact q
    | ok vs t =>
      rw [e1] at q
      intro l1 us st1 ok1 r1
      simp only [R.bind] at q
      split at q
      · rename_i e2
        split at e2
        · rename_i xs
          cases e2
          obtain ⟨v, r, rfl, h1, h2⟩ := r1
          cases (show r = [] from h2)
          obtain ⟨b, ws, rfl, n, hb, rb⟩ := h1
          exact ⟨b, ws, rfl, .inl ⟨SqL.of hb, q l1 _ st1 ok1 (it_enum (fun l st => lst_stays (fun z => n (.inl z)) hb st) rb)⟩⟩
        · rename_i xs
          cases e2
          obtain ⟨v, r, rfl, h1, h2⟩ := r1
          cases (show r = [] from h2)
          obtain ⟨b, ws, rfl, hb, rb⟩ := h1
          refine ⟨b, ws, rfl, .inr ⟨SqT.of2 hb, q l1 _ st1 ok1 (it_enumT (fun l st => ?_) rb)⟩⟩
          rcases hb with ⟨n, hb⟩ | hb
          · exact .inl (Rd.keep (fun o e => st.keep b o (fun z => n (.inl z)) e) hb)
          · exact .inr hb
        · cases e2
      · rename_i e2
        split at e2 <;> cases e2
      · exact q.elim
end
end L3
namespace L3
open PySem PySem.Spec PyProof.Rows L2
/-- a def of the text, known by a global name -/
def Has (P : Program) (w : World) (K : PySem.W.Frag) (mg : Str → Option Value) (base : Heap) (CR : Addr) (x : Str) (k : Nat) (ps : List Str) (F : DF) : Prop :=
  ∃ f fd, mg x = some (.ref f) ∧ PySem.W.keepIn K (.ref f) = true ∧ Binds K fd ps [] ∧ FJ P w K mg base CR k f fd ps F
/-- a def at an address -/
def At (P : Program) (w : World) (K : PySem.W.Frag) (mg : Str → Option Value) (base : Heap) (CR f : Addr) (k : Nat) (ps : List Str) (F : DF) : Prop :=
  ∃ fd, Binds K fd ps [] ∧ FJ P w K mg base CR k f fd ps F
theorem Has.imp {P : Program} {w : World} {K : PySem.W.Frag} {mg : Str → Option Value} {base : Heap} {CR : Addr} {x : Str} {k : Nat} {ps : List Str} {F F' : DF} (h : Has P w K mg base CR x k ps F) (b : Below ps.length F' F) : Has P w K mg base CR x k ps F' :=
  let ⟨f, fd, h1, h2, h3, h4⟩ := h
  ⟨f, fd, h1, h2, h3, h4.imp b⟩
theorem At.imp {P : Program} {w : World} {K : PySem.W.Frag} {mg : Str → Option Value} {base : Heap} {CR f : Addr} {k : Nat} {ps : List Str} {F F' : DF} (h : At P w K mg base CR f k ps F) (b : Below ps.length F' F) : At P w K mg base CR f k ps F' :=
  let ⟨fd, h3, h4⟩ := h
  ⟨fd, h3, h4.imp b⟩
section
variable {X : Cx} {g : Gx} {a b c e : Expr} {es : List Expr} {da db dc de : DE} {dr : DA} {pos p : Pos} {x : Str} {f : Addr} {k n : Nat} {ps : List Str} {F : DF}
theorem At.kj (h : At X.prog X.w X.K X.mg X.base g.CR f k ps F) (hr : Room k X.A) (tk : Takes X g.W) : KJ X g f (fun qs s => if qs.length = ps.length then fnS F qs s else .bad) :=
  let ⟨fd, hb, G⟩ := h
  k_fn ps.length G hr hb tk
theorem At.ka (h : At X.prog X.w X.K X.mg X.base g.CR f k ps F) (tk : Takes X g.W) : KA X g k f (fun qs s => if qs.length = ps.length then fnS F qs s else .bad) :=
  let ⟨fd, hb, G⟩ := h
  ka_fn ps.length G hb tk
/-- how a call looks when the number of arguments is right -/
theorem KJ.of {fn fn' : List PV → S → R S PV} (h : KJ X g f fn) (i : ∀ qs s, fn' qs s = .bad ∨ fn qs s = fn' qs s) : KJ X g f fn' := fun pins s σ xs vs Q l st qs I rv ok rp run => by
  rcases i qs st with e | e
  · rw [e] at run; exact run.elim
  · exact h pins s σ xs vs Q l st qs I rv ok rp (by rw [e]; exact run)
/-- f(e, ..) -/
theorem j_callH (h : Has X.prog X.w X.K X.mg X.base g.CR x k ps F) (hr : Room k X.A) (tk : Takes X g.W) (ha : JA X g (e :: es) dr) (hn : Ln dr n := by repeat (first | with_reducible exact Ln.nil | with_reducible apply Ln.cons)) (hl : n = ps.length := by rfl) (hg : Gl X x := by rfl)
    (hdb : (x == ("__debug__" : Str)) = false := by decide) (he : starEach (e :: es) X.env = (false, eval e X.env) :: starEach es X.env := by rfl) (hpl : (backTo pos (starEach es X.env)).any (·.1) = false := by rfl) :
    JE X g (.Call (.Name x p) (e :: es) [] pos) (dFnS F dr) :=
  let ⟨_, _, hm, hk, hb, G⟩ := h
  j_call G hr hm hk hb tk ha hg (hl ▸ hn) hdb he hpl
theorem At.jr (h : At X.prog X.w X.K X.mg X.base g.CR f k ps F) (hr : Room k X.A) (tk : Takes X g.W) (n : Nat) (hn : n = ps.length := by rfl) : KJ X g f (fun qs s => if qs.length = n then fnS F qs s else .bad) := by
  subst hn
  exact h.kj hr tk
def intsP : List PV → Option (List Int)
  | [] => some []
  | .int i :: r => (match intsP r with | some is => some (i :: is) | none => none)
  | _ => none
theorem intsP_rep {K : PySem.W.Frag} {CR : Addr} {al : List Addr} {L : Addr → Prop} {H : Hp} : ∀ {xs : List PV} {is : List Int} {vs : List V}, intsP xs = some is → RepL K CR al L H xs vs → vs = is.map V.int
  | [], is, vs, e, r => by cases e; exact r
  | x :: xs, is, vs, e, r => by
    obtain ⟨v, w, rfl, h1, h2⟩ := r
    cases x with
    | int i =>
      unfold intsP at e
      cases q : intsP xs with
      | none => rw [q] at e; cases e
      | some js =>
        rw [q] at e
        cases e
        rw [intsP_rep q h2, show v = .int i from h1]; rfl
    | _ => cases e
@[simp] def fSumI : List PV → S → R S PV := fun ps s => match ps with
  | [.lst xs] => (match intsP xs with
    | some is => .ok (.int is.sum) s
    | none => .bad)
  | _ => .bad
theorem c_sumI (hc : X.calm = true) : CJ X g (fun us => call (.builtin "sum") us) fSumI := CJ.of (cr_sum hc) fun l st σ ps xs Q ok rp run => by
  unfold fSumI at run
  split at run
  · rename_i ys
    split at run
    · rename_i is e
      obtain ⟨v, r, rfl, h1, h2⟩ := rp
      cases (show r = [] from h2)
      obtain ⟨a, vs, rfl, _, ha, ra⟩ := h1
      exact ⟨a, is, rfl, by rw [← intsP_rep e ra]; exact SqL.of ha, run l _ (Step.refl l) ok rfl⟩
    · exact run.elim
  · exact run.elim
@[simp] def fIsB (neg : Bool) : PV → PV → S → R S PV := fun p q s => match p, q with
  | .bl a, .bl b => .ok (.bl (xor neg (decide (a = b)))) s
  | _, _ => .bad
theorem j_gint {i : Int} {u : Value} (hm : X.mg x = some u) (r : RelV (.int i) u) (hg : Gl X x := by rfl) (hd : (x == ("__debug__" : Str)) = false := by decide) : JE X g (.Name x pos) (dC (.int i)) := jc (pe_glob hg hm r hd) fun _ => rfl
end
end L3
namespace L3
open PySem PySem.Spec PyProof.Rows L2
theorem OJ.below {X : Cx} {g : Gx} {fn : Value → Value → Sem Value} {f f' : PV → PV → S → R S PV} (h : OJ X g fn f) (i : ∀ p q s, f' p q s = .bad ∨ f p q s = f' p q s) : OJ X g fn f' := fun pins s σ x y v u Q l st p q I rx ry ok rp rq run => by
  rcases i p q st with e | e
  · rw [e] at run; exact run.elim
  · exact h pins s σ x y v u Q l st p q I rx ry ok rp rq (by rw [e]; exact run)
@[simp] def gAdd : PV → PV → S → R S PV := fun p q s => match p, q with
  | .int i, .int j => .ok (.int (i + j)) s
  | .lst xs, .lst ys => if xs.length + ys.length ≤ 16777216 then .ok (.lst (xs ++ ys)) s else .bad
  | .tup xs, .tup ys => if xs.length + ys.length ≤ 16777216 then .ok (.tup (xs ++ ys)) s else .bad
  | .str x, .str y => if x.length + y.length ≤ 16777216 then .ok (.str (x ++ y)) s else .bad
  | _, _ => .bad
@[simp] def gSub : PV → PV → S → R S PV := fun p q s => match p, q with
  | .int i, .int j => .ok (.int (i - j)) s
  | _, _ => .bad
@[simp] def gMul : PV → PV → S → R S PV := fun p q s => match p, q with
  | .int i, .int j => if ib i + ib j ≤ 1000000 then .ok (.int (i * j)) s else .bad
  | .lst xs, .int k => if -(2 ^ 63) ≤ k ∧ k < 2 ^ 63 ∧ xs.length * k.toNat ≤ 16777216 then .ok (.lst (List.replicate k.toNat xs).flatten) s else .bad
  | _, _ => .bad
@[simp] def gFdiv : PV → PV → S → R S PV := fun p q s => match p, q with
  | .int i, .int j => if 0 < j ∧ ib j ≤ 9000 then .ok (.int (i / j)) s else if j < 0 ∧ j.natAbs < 1073741824 then .ok (.int (i.fdiv j)) s else .bad
  | _, _ => .bad
@[simp] def gMod : PV → PV → S → R S PV := fun p q s => match p, q with
  | .int i, .int j => if j ≠ 0 then .ok (.int (i.fmod j)) s else .bad
  | _, _ => .bad
@[simp] def gPow : PV → PV → S → R S PV := fun p q s => match p, q with
  | .int i, .int j => if 0 ≤ j ∧ j ≤ 1000000 ∧ i.natAbs < 2 ^ 64 then .ok (.int (i ^ j.toNat)) s else .bad
  | _, _ => .bad
@[simp] def gLt : PV → PV → S → R S PV := fun p q s => match p, q with
  | .int i, .int j => .ok (.bl (decide (i < j))) s
  | _, _ => .bad
@[simp] def gLe : PV → PV → S → R S PV := fun p q s => match p, q with
  | .int i, .int j => .ok (.bl (decide (i ≤ j))) s
  | _, _ => .bad
@[simp] def gGt : PV → PV → S → R S PV := fun p q s => match p, q with
  | .int i, .int j => .ok (.bl (decide (j < i))) s
  | _, _ => .bad
@[simp] def gGe : PV → PV → S → R S PV := fun p q s => match p, q with
  | .int i, .int j => .ok (.bl (decide (j ≤ i))) s
  | _, _ => .bad
mutual
def okD : Nat → PV → Bool
  | _, .non => true
  | _, .bl _ => true
  | _, .int _ => true
  | _, .str x => SeqAt.shaped (.str x)
  | n + 1, .tup xs => okDL n xs
  | n + 1, .lst xs => okDL n xs
  | n + 1, .frz xs => okDL n xs
  | _, _ => false
def okDL : Nat → List PV → Bool
  | _, [] => true
  | n, x :: xs => okD n x && okDL n xs
end
mutual
def eqP : PV → PV → Bool
  | .non, .non => true
  | .bl a, .bl b => a == b
  | .bl a, .int j => (if a then 1 else 0) == j
  | .int i, .bl b => i == (if b then 1 else 0)
  | .int i, .int j => i == j
  | .str x, .str y => x == y
  | .tup xs, .tup ys => eqPL xs ys
  | .lst xs, .lst ys => eqPL xs ys
  | .lst xs, .frz ys => eqPL xs ys
  | .frz xs, .lst ys => eqPL xs ys
  | .frz xs, .frz ys => eqPL xs ys
  | _, _ => false
def eqPL : List PV → List PV → Bool
  | [], [] => true
  | x :: xs, y :: ys => eqP x y && eqPL xs ys
  | _, _ => false
end
mutual
theorem okD_dat : ∀ (n : Nat) (p : PV), okD n p = true → ∃ d, p.dat = some d ∧ d.canLay0 = true ∧ d.depth ≤ n
  | n, .non, _ => ⟨_, rfl, rfl, Nat.zero_le _⟩
  | n, .bl _, _ => ⟨_, rfl, rfl, Nat.zero_le _⟩
  | n, .int _, _ => ⟨_, rfl, rfl, Nat.zero_le _⟩
  | n, .str x, h => by
    have h : SeqAt.shaped (.str x) = true := by cases n <;> exact h
    exact ⟨_, rfl, SeqAt.canLay_of_shaped h, Nat.zero_le _⟩
  | n + 1, .tup xs, h => by
    obtain ⟨ds, h1, h2, h3⟩ := okDL_dat n xs (by unfold okD at h; exact h)
    exact ⟨.tuple ds, by unfold PV.dat; rw [h1], h2, Nat.succ_le_succ h3⟩
  | n + 1, .lst xs, h => by
    obtain ⟨ds, h1, h2, h3⟩ := okDL_dat n xs (by unfold okD at h; exact h)
    exact ⟨.list ds, by unfold PV.dat; rw [h1], h2, Nat.succ_le_succ h3⟩
  | n + 1, .frz xs, h => by
    obtain ⟨ds, h1, h2, h3⟩ := okDL_dat n xs (by unfold okD at h; exact h)
    exact ⟨.list ds, by unfold PV.dat; rw [h1], h2, Nat.succ_le_succ h3⟩
  | 0, .tup xs, h => by unfold okD at h; cases h
  | 0, .lst xs, h => by unfold okD at h; cases h
  | 0, .frz xs, h => by unfold okD at h; cases h
  | n, .rat _, h => by cases n <;> (unfold okD at h; cases h)
  | n, .obj _ _ _, h => by cases n <;> (unfold okD at h; cases h)
  | n, .ptr _, h => by cases n <;> (unfold okD at h; cases h)
  | n, .adr _, h => by cases n <;> (unfold okD at h; cases h)
  | n, .ty _, h => by cases n <;> (unfold okD at h; cases h)
  | n, .dk _ _, h => by cases n <;> (unfold okD at h; cases h)
  | n, .dt _ _, h => by cases n <;> (unfold okD at h; cases h)
  | n, .exc _ _ _, h => by cases n <;> (unfold okD at h; cases h)
theorem okDL_dat : ∀ (n : Nat) (xs : List PV), okDL n xs = true → ∃ ds, PV.datL xs = some ds ∧ PyData.canLayAll0 ds = true ∧ PyData.depthAll ds ≤ n
  | n, [], _ => ⟨[], rfl, rfl, Nat.zero_le _⟩
  | n, x :: xs, h => by
    have h : (okD n x && okDL n xs) = true := by unfold okDL at h; exact h
    rw [Bool.and_eq_true] at h
    obtain ⟨d, h1, h2, h3⟩ := okD_dat n x h.1
    obtain ⟨ds, g1, g2, g3⟩ := okDL_dat n xs h.2
    refine ⟨d :: ds, by unfold PV.datL; rw [h1, g1], ?_, ?_⟩
    · show (d.canLay0 && PyData.canLayAll0 ds) = true
      rw [h2, g2]; rfl
    · show max d.depth (PyData.depthAll ds) ≤ n
      exact Nat.max_le.mpr ⟨h3, g3⟩
end
mutual
theorem eqP_ok : ∀ (p q : PV) (d e : PyData), p.dat = some d → q.dat = some e → PyData.eqv d e = eqP p q
  | .non, q, d, e, h1, h2 => by
    cases h1
    cases q <;> first | (cases h2; rfl) | (unfold PV.dat at h2; split at h2 <;> first | (cases h2; rfl) | cases h2) | cases h2
  | .bl a, q, d, e, h1, h2 => by
    cases h1
    cases q <;> first | (cases h2; rfl) | (unfold PV.dat at h2; split at h2 <;> first | (cases h2; rfl) | cases h2) | cases h2
  | .int a, q, d, e, h1, h2 => by
    cases h1
    cases q <;> first | (cases h2; rfl) | (unfold PV.dat at h2; split at h2 <;> first | (cases h2; rfl) | cases h2) | cases h2
  | .str a, q, d, e, h1, h2 => by
    cases h1
    cases q <;> first | (cases h2; rfl) | (unfold PV.dat at h2; split at h2 <;> first | (cases h2; rfl) | cases h2) | cases h2
  | .tup xs, q, d, e, h1, h2 => by
    unfold PV.dat at h1
    split at h1
    · rename_i ds e1
      cases h1
      cases q with
      | tup ys =>
        unfold PV.dat at h2
        split at h2
        · rename_i es e2
          cases h2
          show PyData.eqvAll ds es = eqP (.tup xs) (.tup ys)
          rw [eqPL_ok xs ys ds es e1 e2]; simp only [eqP]
        · cases h2
      | lst ys => unfold PV.dat at h2; split at h2 <;> first | (cases h2; simp only [eqP]; rfl) | cases h2
      | frz ys => unfold PV.dat at h2; split at h2 <;> first | (cases h2; simp only [eqP]; rfl) | cases h2
      | non => cases h2; simp only [eqP]; rfl
      | bl b => cases h2; simp only [eqP]; rfl
      | int b => cases h2; simp only [eqP]; rfl
      | str b => cases h2; simp only [eqP]; rfl
      | _ => cases h2
    · cases h1
  | .lst xs, q, d, e, h1, h2 => by
    unfold PV.dat at h1
    split at h1
    · rename_i ds e1
      cases h1
      cases q with
      | lst ys =>
        unfold PV.dat at h2
        split at h2
        · rename_i es e2
          cases h2
          show PyData.eqvAll ds es = eqP (.lst xs) (.lst ys)
          rw [eqPL_ok xs ys ds es e1 e2]; simp only [eqP]
        · cases h2
      | frz ys =>
        unfold PV.dat at h2
        split at h2
        · rename_i es e2
          cases h2
          show PyData.eqvAll ds es = eqP (.lst xs) (.frz ys)
          rw [eqPL_ok xs ys ds es e1 e2]; simp only [eqP]
        · cases h2
      | tup ys => unfold PV.dat at h2; split at h2 <;> first | (cases h2; simp only [eqP]; rfl) | cases h2
      | non => cases h2; simp only [eqP]; rfl
      | bl b => cases h2; simp only [eqP]; rfl
      | int b => cases h2; simp only [eqP]; rfl
      | str b => cases h2; simp only [eqP]; rfl
      | _ => cases h2
    · cases h1
  | .frz xs, q, d, e, h1, h2 => by
    unfold PV.dat at h1
    split at h1
    · rename_i ds e1
      cases h1
      cases q with
      | lst ys =>
        unfold PV.dat at h2
        split at h2
        · rename_i es e2
          cases h2
          show PyData.eqvAll ds es = eqP (.frz xs) (.lst ys)
          rw [eqPL_ok xs ys ds es e1 e2]; simp only [eqP]
        · cases h2
      | frz ys =>
        unfold PV.dat at h2
        split at h2
        · rename_i es e2
          cases h2
          show PyData.eqvAll ds es = eqP (.frz xs) (.frz ys)
          rw [eqPL_ok xs ys ds es e1 e2]; simp only [eqP]
        · cases h2
      | tup ys => unfold PV.dat at h2; split at h2 <;> first | (cases h2; simp only [eqP]; rfl) | cases h2
      | non => cases h2; simp only [eqP]; rfl
      | bl b => cases h2; simp only [eqP]; rfl
      | int b => cases h2; simp only [eqP]; rfl
      | str b => cases h2; simp only [eqP]; rfl
      | _ => cases h2
    · cases h1
  | .rat _, _, _, _, h1, _ => nomatch h1
  | .obj _ _ _, _, _, _, h1, _ => nomatch h1
  | .ptr _, _, _, _, h1, _ => nomatch h1
  | .adr _, _, _, _, h1, _ => nomatch h1
  | .ty _, _, _, _, h1, _ => nomatch h1
theorem eqPL_ok : ∀ (xs ys : List PV) (ds es : List PyData), PV.datL xs = some ds → PV.datL ys = some es → PyData.eqvAll ds es = eqPL xs ys
  | [], [], ds, es, h1, h2 => by cases h1; cases h2; simp only [eqPL]; rfl
  | [], y :: ys, ds, es, h1, h2 => by
    cases h1
    unfold PV.datL at h2
    split at h2
    · cases h2; simp only [eqPL]; rfl
    · cases h2
  | x :: xs, [], ds, es, h1, h2 => by
    cases h2
    unfold PV.datL at h1
    split at h1
    · cases h1; simp only [eqPL]; rfl
    · cases h1
  | x :: xs, y :: ys, ds, es, h1, h2 => by
    unfold PV.datL at h1 h2
    split at h1
    · rename_i d ds' e1 e2
      cases h1
      split at h2
      · rename_i e es' e3 e4
        cases h2
        show (PyData.eqv d e && PyData.eqvAll ds' es') = eqPL (x :: xs) (y :: ys)
        rw [eqP_ok x y d e e1 e3, eqPL_ok xs ys ds' es' e2 e4]; simp only [eqPL]
      · cases h2
    · cases h1
end
@[simp] def gEqD (neg : Bool) : PV → PV → S → R S PV := fun p q s => if okD 8 p = true ∧ okD 8 q = true then .ok (.bl (xor neg (eqP p q))) s else .bad
theorem gEqD_ok (neg : Bool) (p q : PV) (s : S) : gEqD neg p q s = .bad ∨ fEqD neg p q s = gEqD neg p q s := by
  unfold gEqD
  by_cases h : okD 8 p = true ∧ okD 8 q = true
  · obtain ⟨d, d1, d2, d3⟩ := okD_dat 8 p h.1
    obtain ⟨e, e1, e2, e3⟩ := okD_dat 8 q h.2
    refine .inr ?_
    rw [if_pos h]
    unfold fEqD
    rw [d1, e1]
    have sd : SeqAt.shaped d = true := by unfold SeqAt.shaped; rw [d2, Bool.true_and]; exact decide_eq_true (by omega)
    have se : SeqAt.shaped e = true := by unfold SeqAt.shaped; rw [e2, Bool.true_and]; exact decide_eq_true (by omega)
    show (if SeqAt.shaped d = true ∧ SeqAt.shaped e = true then _ else _) = _
    rw [if_pos ⟨sd, se⟩, eqP_ok p q d e d1 e1]
  · rw [if_neg h]; exact .inl rfl
section
variable {X : Cx} {g : Gx}
theorem o_add : OJ X g (binaryOp .Add) gAdd := ((o_addI).or (o_catL.or (o_catT.or o_catS))).below fun p q s => by cases p <;> first | exact .inl rfl | (cases q <;> first | exact .inl rfl | exact .inr rfl | (simp only [gAdd, orB, fI2]; split <;> simp))
theorem o_sub : OJ X g (binaryOp .Sub) gSub := o_subI.below fun p q s => by cases p <;> first | exact .inl rfl | (cases q <;> first | exact .inl rfl | exact .inr rfl)
theorem o_mul : OJ X g (binaryOp .Mult) gMul := (o_mulI.or o_repL).below fun p q s => by cases p <;> first | exact .inl rfl | (cases q <;> first | exact .inl rfl | exact .inr rfl | (simp only [gMul, orB, fI2, FMul]; split <;> simp_all))
theorem o_fdiv : OJ X g (binaryOp .FloorDiv) gFdiv := o_fdivI.below fun p q s => by cases p <;> first | exact .inl rfl | (cases q <;> first | exact .inl rfl | exact .inr rfl | (simp only [gFdiv, fI2, FFdiv]; split <;> first | exact .inr rfl | (split <;> first | exact .inr rfl | exact .inl rfl)))
theorem o_mod : OJ X g (binaryOp .Mod) gMod := o_modI.below fun p q s => by cases p <;> first | exact .inl rfl | (cases q <;> first | exact .inl rfl | exact .inr rfl | (simp only [gMod, fI2, FMod]; split <;> first | exact .inr rfl | exact .inl rfl))
theorem o_pow : OJ X g (binaryOp .Pow) gPow := o_powI.below fun p q s => by cases p <;> first | exact .inl rfl | (cases q <;> first | exact .inl rfl | exact .inr rfl | (simp only [gPow, fI2, FPow]; split <;> first | exact .inr rfl | exact .inl rfl))
theorem o_ltI : OJ X g (compareOp .Lt) gLt := o_lt.below fun p q s => by cases p <;> first | exact .inl rfl | (cases q <;> first | exact .inl rfl | exact .inr rfl)
theorem o_leI : OJ X g (compareOp .LtE) gLe := o_le.below fun p q s => by cases p <;> first | exact .inl rfl | (cases q <;> first | exact .inl rfl | exact .inr rfl)
theorem o_gtI : OJ X g (compareOp .Gt) gGt := o_gt.below fun p q s => by cases p <;> first | exact .inl rfl | (cases q <;> first | exact .inl rfl | exact .inr rfl)
theorem o_geI : OJ X g (compareOp .GtE) gGe := o_ge.below fun p q s => by cases p <;> first | exact .inl rfl | (cases q <;> first | exact .inl rfl | exact .inr rfl)
theorem o_eq (hu : X.A.units + 64 < cLine) : OJ X g (compareOp .Eq) (gEqD false) := (o_eqD hu).below fun p q s => gEqD_ok false p q s
theorem o_ne (hu : X.A.units + 64 < cLine) : OJ X g (compareOp .NotEq) (gEqD true) := (o_neD hu).below fun p q s => gEqD_ok true p q s
end
@[simp] def fuI (i : Nat) : S → Nat := fun s => match s.env[i]? with
  | some (some (.val (.int n))) => n.natAbs + 1
  | _ => 0
@[simp] def fuL (i : Nat) : S → Nat := fun s => match s.env[i]? with
  | some (some (.own xs)) => xs.length + 1
  | some (some (.val (.lst xs))) => xs.length + 1
  | _ => 0
end L3
namespace L3
open PySem PySem.Spec PyProof.Rows L2
@[simp] def bInt : TP → Option Bool
  | .int => some true | .bl => some true | .cls _ => none | .nam _ => none | _ => some false
@[simp] def bBool : TP → Option Bool
  | .bl => some true | .cls _ => none | .nam _ => none | _ => some false
@[simp] def bStr : TP → Option Bool
  | .str => some true | .cls _ => none | .nam _ => none | _ => some false
@[simp] def bTup : TP → Option Bool
  | .tup => some true | .cls _ => none | .nam _ => none | _ => some false
@[simp] def bLst : TP → Option Bool
  | .lst => some true | .cls _ => none | .nam _ => none | _ => some false
@[simp] def bRat : TP → Option Bool
  | .rat => some true | .cls _ => none | .nam _ => none | _ => some false
theorem kisi_ok {K : PySem.W.Frag} (h : kisiB K = true) : KIsi K := by
  obtain ⟨h1, h2⟩ := He.ba h
  exact ⟨He.eqO_ok h1, of_decide_eq_true h2⟩
theorem clsI_ok {K : PySem.W.Frag} {C : Addr} (c : Cls K C) (h : clsIB K C = true) : ClsI K C := by
  obtain ⟨h1, h2⟩ := He.ba h
  exact ⟨c, He.eqO_ok h1, of_decide_eq_true h2⟩
structure IsiR (K : PySem.W.Frag) (CR : Addr) : Prop where
  kk : KIsi K
  int : IsiK K CR (.type "int") bInt
  bool : IsiK K CR (.type "bool") bBool
  str : IsiK K CR (.type "str") bStr
  tup : IsiK K CR (.type "tuple") bTup
  lst : IsiK K CR (.type "list") bLst
  rat : IsiK K CR (.ref CR) bRat
theorem isiR_ok {K : PySem.W.Frag} {CR : Addr} (k : kisiB K = true) (c : ClsI K CR) (h : isiB K CR = true) : IsiR K CR := by
  obtain ⟨h1, h⟩ := He.ba h
  obtain ⟨h2, h⟩ := He.ba h
  obtain ⟨h3, h⟩ := He.ba h
  obtain ⟨h4, h⟩ := He.ba h
  obtain ⟨h5, h⟩ := He.ba h
  obtain ⟨h6, h7⟩ := He.ba h
  have h7' : ∀ t ∈ ["NoneType", "bool", "int", "str", "tuple", "list", "dict"], PySem.W.kitOne K (.type t) (.ref CR) = some false := fun t ht => of_decide_eq_true (List.all_eq_true.mp h7 t ht)
  have cc : ∀ {tp : TP} {C : Addr}, (∀ D, tp ≠ .cls D) → (∀ D, tp ≠ .nam D) → (tp = .cls C ∨ (tp = .rat ∧ C = CR) ∨ ∃ c, tp = .nam c ∧ C = He.ga K c) → ClsI K C := fun n n2 z => by
    rcases z with z | ⟨_, z⟩ | ⟨_, z, _⟩
    · exact absurd z (n _)
    · rw [z]; exact c
    · exact absurd z (n2 _)
  refine ⟨kisi_ok k, ?_, ?_, ?_, ?_, ?_, ?_⟩
  · intro tp r e
    cases tp <;> first
      | (cases e; exact ⟨kit_ty (by decide +kernel), fun C z => cc (by intro D y; cases y) (by intro D y; cases y) z⟩)
      | (cases e; exact ⟨of_decide_eq_true h1, fun C z => cc (by intro D y; cases y) (by intro D y; cases y) z⟩)
      | cases e
  · intro tp r e
    cases tp <;> first
      | (cases e; exact ⟨kit_ty (by decide +kernel), fun C z => cc (by intro D y; cases y) (by intro D y; cases y) z⟩)
      | (cases e; exact ⟨of_decide_eq_true h2, fun C z => cc (by intro D y; cases y) (by intro D y; cases y) z⟩)
      | cases e
  · intro tp r e
    cases tp <;> first
      | (cases e; exact ⟨kit_ty (by decide +kernel), fun C z => cc (by intro D y; cases y) (by intro D y; cases y) z⟩)
      | (cases e; exact ⟨of_decide_eq_true h3, fun C z => cc (by intro D y; cases y) (by intro D y; cases y) z⟩)
      | cases e
  · intro tp r e
    cases tp <;> first
      | (cases e; exact ⟨kit_ty (by decide +kernel), fun C z => cc (by intro D y; cases y) (by intro D y; cases y) z⟩)
      | (cases e; exact ⟨of_decide_eq_true h4, fun C z => cc (by intro D y; cases y) (by intro D y; cases y) z⟩)
      | cases e
  · intro tp r e
    cases tp <;> first
      | (cases e; exact ⟨kit_ty (by decide +kernel), fun C z => cc (by intro D y; cases y) (by intro D y; cases y) z⟩)
      | (cases e; exact ⟨of_decide_eq_true h5, fun C z => cc (by intro D y; cases y) (by intro D y; cases y) z⟩)
      | cases e
  · intro tp r e
    cases tp <;> first
      | (cases e; exact ⟨h7' _ (by simp), fun C z => cc (by intro D y; cases y) (by intro D y; cases y) z⟩)
      | (cases e; exact ⟨of_decide_eq_true h6, fun C z => cc (by intro D y; cases y) (by intro D y; cases y) z⟩)
      | cases e
/-- Ratio(..) -/
def HasR (P : Program) (w : World) (K : PySem.W.Frag) (mg : Str → Option Value) (base : Heap) (CR : Addr) (k : Nat) (okb : Int → Int → Bool) : Prop :=
  mg "Ratio" = some (.ref CR) ∧ ∃ f fd one, Mk K CR f ∧ Binds K fd ["self", "top", "bottom"] [] ∧ Binds K fd ["self", "top", "bottom"] [one] ∧ RelV (.int 1) one ∧ FJ P w K mg base CR k f fd ["self", "top", "bottom"] (FInit CR okb)
section
variable {X : Cx} {g : Gx} {a b c e : Expr} {es : List Expr} {da db dc de : DE} {dr : DA} {pos p : Pos} {x : Str} {f : Addr} {k n : Nat} {ps : List Str} {F : DF} {okb : Int → Int → Bool}
theorem j_callR (h : HasR X.prog X.w X.K X.mg X.base g.CR k okb) (hr : Room (k + 1) X.A) (ha : JA X g (e :: es) dr) (hg : Gl X "Ratio" := by rfl)
    (he : starEach (e :: es) X.env = (false, eval e X.env) :: starEach es X.env := by rfl) (hpl : (backTo pos (starEach es X.env)).any (·.1) = false := by rfl) : JE X g (.Call (.Name "Ratio" p) (e :: es) [] pos) (dFn (fMakeR okb) dr) :=
  let ⟨hm, _, _, _, M, hb, hb1, h1, G⟩ := h
  j_callG (c_makeR M G hr hb hb1 h1) hg hm M.kp ha (by decide) he hpl
theorem j_isR (E : IsiR X.K g.CR) (hR : X.mg "Ratio" = some (.ref g.CR)) (hm : X.mg "isinstance" = none) (ha : JE X g a da) (hg : Gl X "isinstance" := by rfl) (hg2 : Gl X "Ratio" := by rfl)
    (h1 : starEach [a, .Name "Ratio" p] X.env = (false, eval a X.env) :: starEach [.Name "Ratio" p] X.env := by rfl) (h2 : starEach [.Name "Ratio" p] X.env = (false, eval (.Name "Ratio" p) X.env) :: starEach [] X.env := by rfl) (hpl : (backTo pos (starEach [.Name "Ratio" p] X.env)).any (·.1) = false := by rfl) {q : Pos} :
    JE X g (.Call (.Name "isinstance" q) [a, .Name "Ratio" p] [] pos) (dUn (fIsi bRat) da) := j_isi E.kk E.rat (.own g.CR) ha (pe_glob hg2 hR rfl) hg hm h1 h2 hpl
theorem j_isT {T : String} {y : Str} {bb : TP → Option Bool} (kk : KIsi X.K) (ii : IsiK X.K g.CR (.type T) bb) (hy : X.mg y = none) (hv : bootBuiltins y = some (.type T)) (hm : X.mg "isinstance" = none) (ha : JE X g a da) (hg : Gl X "isinstance" := by rfl) (hg2 : Gl X y := by rfl) (hn : y ≠ "__name__" := by decide) (hd : (y == ("__debug__" : Str)) = false := by decide)
    (h1 : starEach [a, .Name y p] X.env = (false, eval a X.env) :: starEach [.Name y p] X.env := by rfl) (h2 : starEach [.Name y p] X.env = (false, eval (.Name y p) X.env) :: starEach [] X.env := by rfl) (hpl : (backTo pos (starEach [.Name y p] X.env)).any (·.1) = false := by rfl) {q : Pos} :
    JE X g (.Call (.Name "isinstance" q) [a, .Name y p] [] pos) (dUn (fIsi bb) da) := j_isi kk ii (.ty T) ha (pe_bltn (v := .ty T) hg2 hy hv rfl hn hd) hg hm h1 h2 hpl
end
end L3
namespace L3
open PySem PySem.Spec PyProof.Rows L2
def F_top : DF := fun ps mu => match ps with
  | [.rat q] => .ok (.int q.num) mu
  | _ => .bad
def F_bottom : DF := fun ps mu => match ps with
  | [.rat q] => .ok (.int q.den) mu
  | _ => .bad
@[simp] def fMt (n : Nat) (F : DF) : List PV → S → R S PV := fun qs s => if qs.length = n then fnS F qs s else .bad
@[simp] def fCm (n : Nat) (CR : Addr) (F : DF) : List PV → S → R S PV := fun qs s => if qs.length + 1 = n then fnS F (.adr CR :: qs) s else .bad
def HasP (P : Program) (w : World) (K : PySem.W.Frag) (mg : Str → Option Value) (base : Heap) (CR : Addr) (fl : Str) (k : Nat) (F : DF) : Prop :=
  ∃ pA gA fd, PropOf K CR fl pA gA ∧ Binds K fd ["self"] [] ∧ FJ P w K mg base CR k gA fd ["self"] F
def HasM (P : Program) (w : World) (K : PySem.W.Frag) (mg : Str → Option Value) (base : Heap) (CR : Addr) (m : Str) (k : Nat) (ps : List Str) (F : DF) : Prop :=
  ∃ f, Meth K CR m f ∧ At P w K mg base CR f k ps F
section
variable {X : Cx} {g : Gx} {a b c e o : Expr} {es : List Expr} {da db dc de dob : DE} {dr : DA} {pos p apos : Pos} {x m : Str} {f : Addr} {k : Nat} {ps : List Str} {F : DF}
theorem JE.eq {d d' : DE} (h : JE X g e d) (i : ∀ s, d' s = d s) : JE X g e d' := (funext i : d' = d) ▸ h
theorem j_ptop (h : HasP X.prog X.w X.K X.mg X.base g.CR "top" k F_top) (T : ClsR X.K g.CR) (hr : Room (k + 1) X.A) (he : JE X g e de) (hab : attributeBase e "top" X.env (eval e X.env) = eval e X.env := by rfl) : JE X g (.Attribute e "top" pos) (dUn fTop de) :=
  let ⟨_, _, _, hp, hb, G⟩ := h
  (j_propR T hp G hr hb he hab).eq fun s => by
    show (de s).bind _ = (de s).bind _
    congr 1
theorem j_pbot (h : HasP X.prog X.w X.K X.mg X.base g.CR "bottom" k F_bottom) (T : ClsR X.K g.CR) (hr : Room (k + 1) X.A) (he : JE X g e de) (hab : attributeBase e "bottom" X.env (eval e X.env) = eval e X.env := by rfl) : JE X g (.Attribute e "bottom" pos) (dUn fBot de) :=
  let ⟨_, _, _, hp, hb, G⟩ := h
  (j_propR T hp G hr hb he hab).eq fun s => by
    show (de s).bind _ = (de s).bind _
    congr 1
theorem j_mR {pl : Sem Bool} {n : Nat} (h : HasM X.prog X.w X.K X.mg X.base g.CR m k ps F) (T : ClsR X.K g.CR) (hr : Room k X.A) (tk : Takes X g.W) (ho : JE X g o dob) (ha : JA X g (e :: es) dr) (hn : n = ps.length := by rfl) (ht : m ≠ sTop := by decide) (hbo : m ≠ sBot := by decide)
    (hst : starEach (e :: es) X.env = (false, eval e X.env) :: starEach es X.env := by rfl) (hpl : (backTo pos (starEach es X.env)).any (·.1) = false := by rfl)
    (htr : eval (.Call (.Attribute o m apos) (e :: es) [] pos) X.env = (do
      let ov ← eval o X.env
      standAt apos.atName
      let (f, first) ← holding [ov] (getMethod ov m pl)
      callWith pos f first (backTo pos (starEach (e :: es) X.env)) (backToKw pos (keywordEach [] X.env))) := by rfl) :
    JE X g (.Call (.Attribute o m apos) (e :: es) [] pos) (dMethR (fMt n F) dob dr) :=
  let ⟨_, M, hA⟩ := h
  j_methR T M ht hbo (hA.jr hr tk n hn) ho ha hst hpl htr
end
end L3
namespace L3
open PySem PySem.Spec PyProof.Rows L2
@[simp] def setP : List Nat → List PV → S → Option S
  | [], [], s => some s
  | j :: js, v :: vs, s => setP js vs (setE j v s)
  | _, _, _ => none
@[simp] def dPar (js : List Nat) (d : DA) : DS := fun s => (d s).bind fun vs s1 => match setP js vs s1 with
  | some s2 => .ok .nx s2
  | none => .bad
theorem setP_ok {K : PySem.W.Frag} {g : Gx} {l : Lc} : ∀ {js : List Nat} {ps : List PV} {us : List V} {s s2 : S} {σ : St}, Sok K g l s σ → RepGL K g l ps us → setP js ps s = some s2 → us.length = js.length ∧ Sok K g l s2 (setσ js us σ)
  | [], [], us, s, s2, σ, ok, r, e => by
    cases (show us = [] from r)
    cases e
    exact ⟨rfl, ok⟩
  | j :: js, p :: ps, us, s, s2, σ, ok, r, e => by
    obtain ⟨u, w, rfl, h1, h2⟩ := r
    obtain ⟨q1, q2⟩ := setP_ok (ok.set (i := j) h1) h2 (show setP js ps (setE j p s) = some s2 from e)
    exact ⟨by simpa using q1, q2⟩
  | [], p :: ps, us, s, s2, σ, ok, r, e => by simp at e
  | j :: js, [], us, s, s2, σ, ok, r, e => by simp at e
theorem par_reads {K : PySem.W.Frag} {g : Gx} {js : List Nat} {dr : DA} {D : Ends} {σ : St} {H : Hp} (q : LS K g (dPar js dr) D σ H) : LA K g dr σ H (fun us H1 => us.length = js.length ∧ D.nx (setσ js us σ) H1) := by
  obtain ⟨l, s, rfl, ok, q⟩ := q
  refine ⟨l, s, rfl, ok, ?_⟩
  simp only [dPar] at q
  cases e1 : dr s with
  | bad => rw [e1] at q; exact q
  | exn x t => rw [e1] at q; exact fun l' c d => q l' σ c d
  | ok vs t =>
    rw [e1] at q
    simp only [R.bind] at q
    cases e2 : setP js vs t with
    | none => rw [e2] at q; exact q.elim
    | some s2 =>
      rw [e2] at q
      intro l' us st ok' r'
      obtain ⟨h1, h2⟩ := setP_ok ok' r' e2
      exact ⟨h1, q l' _ st h2⟩
theorem parX_reads {K : PySem.W.Frag} {g : Gx} {js : List Nat} {dx : DX} {D : Ends} {σ : St} {H : Hp} (q : LS K g (dAsgX js dx) D σ H) : LX K g dx σ H (fun us H1 => us.length = js.length ∧ D.nx (setσ js us σ) H1) := by
  obtain ⟨l, s, rfl, ok, q⟩ := q
  refine ⟨l, s, rfl, ok, ?_⟩
  simp only [dAsgX] at q
  cases e1 : dx s with
  | bad => rw [e1] at q; exact q
  | exn x t => rw [e1] at q; exact fun l' c d => q l' σ c d
  | ok svs t =>
    rw [e1] at q
    simp only [R.bind] at q
    cases e2 : setX js svs t with
    | none => rw [e2] at q; exact q.elim
    | some s2 =>
      rw [e2] at q
      intro l' us P st hP nd ok' r'
      have hgN : ∀ p ∈ P, ¬ g.N p := fun p hp z => ok.there p (.inr z) (hP p hp)
      obtain ⟨hlen, l2, f1, f2, f3, f4, ok2⟩ := setAll ok' r' nd hgN e2
      refine ⟨hlen, ?_⟩
      have st2 : Step l l2 := ⟨by rw [f2]; exact st.pre, fun a h => by
        rcases f4 a h with z | z
        · exact st.new a z
        · exact .inr (hP a z), fun a o n e => by rw [f1]; exact st.keep a o n e, fun a h => by rw [f1]; exact st.dom a h⟩
      have := q l2 (setσ js us σ) st2 ok2
      rw [← f1]
      exact this
section
variable {X : Cx} {g : Gx} {a b c e : Expr} {es : List Expr} {da db dc de : DE} {dr : DA} {dx : DX} {pos : Pos} {i j l : Nat} {x y z : Str} {px py pz pt : Pos} {kt k2 : _} {pt2 : Pos}
theorem par2 {t : TA} {D : Ends} {σ : St} {H : Hp} {i j : Nat} (h : t σ H (fun us H1 => us.length = 2 ∧ D.nx (setσ [i, j] us σ) H1)) (m : ∀ σ H Q Q', (∀ us H1, Q us H1 → Q' us H1) → t σ H Q → t σ H Q') : tPar i j t D σ H := m _ _ _ _ (fun us H1 q => by
  obtain ⟨q1, q2⟩ := q
  match us, q1 with
  | [v, w], _ => exact ⟨v, w, rfl, q2⟩) h
theorem LA.mono {K : PySem.W.Frag} (σ : St) (H : Hp) (Q Q' : List V → Hp → Prop) (i : ∀ us H1, Q us H1 → Q' us H1) (h : LA K g dr σ H Q) : LA K g dr σ H Q' := let ⟨l, s, e, ok, q⟩ := h; ⟨l, s, e, ok, RunA.mono q i⟩
theorem LX.mono {K : PySem.W.Frag} (σ : St) (H : Hp) (Q Q' : List V → Hp → Prop) (i : ∀ us H1, Q us H1 → Q' us H1) (h : LX K g dx σ H Q) : LX K g dx σ H Q' := by
  obtain ⟨l, s, e, ok, q⟩ := h
  refine ⟨l, s, e, ok, ?_⟩
  cases e1 : dx s with
  | bad => rw [e1] at q; exact q
  | exn x t => rw [e1] at q; exact q
  | ok svs t => rw [e1] at q; exact fun l' us P a b c d f => i _ _ (q l' us P a b c d f)
theorem js_par2 (hc : X.calm = true) (hN : X.N.Nodup) (ha : JA X g [a, b] dr) (hi : X.N[i]? = some x := by rfl) (hj : X.N[j]? = some y := by rfl) (hij : i ≠ j := by decide) (hx : X.env.scope.names.lookup x = some .local := by rfl) (hy : X.env.scope.names.lookup y = some .local := by rfl)
    (hw : swappedStores [.Tuple [.Name x px, .Name y py] kt pt] (.Tuple [a, b] k2 pt2) X.env = pure (some [x, y]) := by rfl) (hs : swapsWithSole [.Tuple [.Name x px, .Name y py] kt pt] (.Tuple [a, b] k2 pt2) pos.line X.env = pure false := by rfl) :
    JS X g (.Assign [.Tuple [.Name x px, .Name y py] kt pt] (.Tuple [a, b] k2 pt2) pos) (dPar [i, j] dr) :=
  PS.cq (ps_par hc hN hi hj hij hx hy ha hw hs) fun pins s D σ H I q => par2 (par_reads q) LA.mono
theorem js_parX2 (hc : X.calm = true) (hN : X.N.Nodup) (ha : JX X g [a, b] dx) (hi : X.N[i]? = some x := by rfl) (hj : X.N[j]? = some y := by rfl) (hij : i ≠ j := by decide) (hx : X.env.scope.names.lookup x = some .local := by rfl) (hy : X.env.scope.names.lookup y = some .local := by rfl)
    (hw : swappedStores [.Tuple [.Name x px, .Name y py] kt pt] (.Tuple [a, b] k2 pt2) X.env = pure (some [x, y]) := by rfl) (hs : swapsWithSole [.Tuple [.Name x px, .Name y py] kt pt] (.Tuple [a, b] k2 pt2) pos.line X.env = pure false := by rfl) :
    JS X g (.Assign [.Tuple [.Name x px, .Name y py] kt pt] (.Tuple [a, b] k2 pt2) pos) (dAsgX [i, j] dx) :=
  PS.cq (ps_par hc hN hi hj hij hx hy ha hw hs) fun pins s D σ H I q => par2 (parX_reads q) LX.mono
end
end L3
namespace L3
open PySem PySem.Spec PyProof.Rows L2
section
variable {prog : Program} {w : World} {A : Around} {E : Value → Shared → Prop} {s : Shared} {a b : Addr} {xs ys : Array Value} {Q : Value → Shared → Prop}
theorem rc_empty (hl : s.heap.IsList a xs) (hb : s.heap.IsList b ys) (hu : A.units < cLine) (h0 : xs.size = 0 ∨ ys.size = 0) (h : Q (.bool (xs.size == ys.size)) s) : wpAny (model prog w) A (richCompare .Eq (.ref a) (.ref b)) Q E s := by
  obtain ⟨⟨c1, d1, t1, l1⟩, o1, e1, n1, f1⟩ := id hl
  obtain ⟨⟨c2, d2, t2, l2⟩, o2, e2, n2, f2⟩ := id hb
  simp only at e1 f1 e2 f2
  subst e1 f1 e2 f2
  have ta : s.TypeIs (.ref a) "list" := ⟨_, o1, rfl⟩
  refine wpAny_richCompare_same_room (op := .Eq) ta ⟨_, o2, rfl⟩ F.slot_list_eq ?_ hu
  by_cases z : xs.size = ys.size
  · refine call_meets F.slot_list_eq ta F.entry_list_eq (F.args_list_eq_2 _ _) (SeqAt.list_eqAt a b xs ys n1 n2 d1 d2 l1 l2 z (fun _ => true)) ⟨o1, o2, fun j h1 h2 => absurd h0 (by omega), ?_⟩
    have e : (List.range xs.size).all (fun _ => true) = (xs.size == ys.size) := by simp [z]
    rw [e]
    exact ⟨(fun x => nomatch x), h⟩
  · have z' : (xs.size != ys.size) = true := by simpa using z
    refine call_meets F.slot_list_eq ta F.entry_list_eq (F.args_list_eq_2 _ _) (SeqAt.list_eq_lengthsAt a b xs ys n1 n2 d1 d2 l1 l2 z') ⟨o1, o2, ?_⟩
    have e : (xs.size == ys.size) = false := by simpa using z
    rw [e] at h
    exact ⟨(fun x => nomatch x), h⟩
theorem rn_empty (hl : s.heap.IsList a xs) (hb : s.heap.IsList b ys) (hu : A.units < cLine) (h0 : xs.size = 0 ∨ ys.size = 0) (h : Q (.bool (!(xs.size == ys.size))) s) : wpAny (model prog w) A (richCompare .NotEq (.ref a) (.ref b)) Q E s := by
  obtain ⟨⟨c1, d1, t1, l1⟩, o1, e1, n1, f1⟩ := id hl
  obtain ⟨⟨c2, d2, t2, l2⟩, o2, e2, n2, f2⟩ := id hb
  simp only at e1 f1 e2 f2
  subst e1 f1 e2 f2
  have ta : s.TypeIs (.ref a) "list" := ⟨_, o1, rfl⟩
  refine wpAny_richCompare_same_room (op := .NotEq) ta ⟨_, o2, rfl⟩ F.slot_list_ne ?_ hu
  by_cases z : xs.size = ys.size
  · refine call_meets F.slot_list_ne ta F.entry_list_ne (F.args_list_ne_2 _ _) (SeqAt.list_neAt a b xs ys n1 n2 d1 d2 l1 l2 z (fun _ => true)) ⟨o1, o2, fun j h1 h2 => absurd h0 (by omega), ?_⟩
    have e : (List.range xs.size).all (fun _ => true) = (xs.size == ys.size) := by simp [z]
    rw [e]
    exact ⟨(fun x => nomatch x), h⟩
  · have z' : (xs.size != ys.size) = true := by simpa using z
    refine call_meets F.slot_list_ne ta F.entry_list_ne (F.args_list_ne_2 _ _) (SeqAt.list_ne_lengthsAt a b xs ys n1 n2 d1 d2 l1 l2 z') ⟨o1, o2, ?_⟩
    have e : (xs.size == ys.size) = false := by simpa using z
    rw [e] at h
    exact ⟨(fun x => nomatch x), h⟩
end
def fEqE (neg : Bool) : PV → PV → S → R S PV := fun p q s => match p, q with
  | .lst xs, .lst ys => if xs.length = 0 ∨ ys.length = 0 then .ok (.bl (xor neg (xs.length == ys.length))) s else .bad
  | .str a, .str b => .ok (.bl (xor neg (a == b))) s
  | _, _ => .bad
theorem dec_strV {a b : Str} : decide (V.str a = V.str b) = (a == b) := by
  rw [Bool.eq_iff_iff]
  simp
section
variable {X : Cx} {g : Gx}
theorem o_eqE (hu : X.A.units + 64 < cLine) : OJ X g (compareOp .Eq) (fEqE false) := by
  intro pins s σ x y v u Q l st p q I rx ry ok rp rq run
  unfold fEqE at run
  split at run
  · rename_i xs ys
    split at run
    · rename_i h0
      obtain ⟨a, vs, rfl, _, ha, ra⟩ := rp
      obtain ⟨b, ws, rfl, _, hb, rb⟩ := rq
      cases (show v = .ref a from rx)
      cases (show u = .ref b from ry)
      obtain ⟨its, rv, p1, _⟩ := I.list (SqL.of ha)
      obtain ⟨its2, rv2, p2, _⟩ := I.list (SqL.of hb)
      have l1 : its.toArray.size = _ := (List.size_toArray ..).trans (rv.length.symm.trans ra.length.symm)
      have l2 : its2.toArray.size = _ := (List.size_toArray ..).trans (rv2.length.symm.trans rb.length.symm)
      refine rc_empty p1.isList p2.isList (by omega) (by rw [l1, l2]; exact h0) ?_
      rw [l1, l2]
      have z := run l (.bl (xor false (xs.length == ys.length))) (Step.refl l) ok rfl
      rw [Bool.false_xor] at z
      exact ⟨.bl (xs.length == ys.length), l.H, I, rfl, z⟩
    · exact run.elim
  · rename_i a b
    have z := run l (.bl (xor false (a == b))) (Step.refl l) ok rfl
    cases (show x = .str a from rp)
    cases (show y = .str b from rq)
    refine op_eq pins s σ l.H _ _ v u Q I rx ry ⟨rfl, ?_⟩
    rw [dec_strV]
    rw [Bool.false_xor] at z
    exact z
  · exact run.elim
theorem o_neE (hu : X.A.units + 64 < cLine) : OJ X g (compareOp .NotEq) (fEqE true) := by
  intro pins s σ x y v u Q l st p q I rx ry ok rp rq run
  unfold fEqE at run
  split at run
  · rename_i xs ys
    split at run
    · rename_i h0
      obtain ⟨a, vs, rfl, _, ha, ra⟩ := rp
      obtain ⟨b, ws, rfl, _, hb, rb⟩ := rq
      cases (show v = .ref a from rx)
      cases (show u = .ref b from ry)
      obtain ⟨its, rv, p1, _⟩ := I.list (SqL.of ha)
      obtain ⟨its2, rv2, p2, _⟩ := I.list (SqL.of hb)
      have l1 : its.toArray.size = _ := (List.size_toArray ..).trans (rv.length.symm.trans ra.length.symm)
      have l2 : its2.toArray.size = _ := (List.size_toArray ..).trans (rv2.length.symm.trans rb.length.symm)
      refine rn_empty p1.isList p2.isList (by omega) (by rw [l1, l2]; exact h0) ?_
      rw [l1, l2]
      have z := run l (.bl (xor true (xs.length == ys.length))) (Step.refl l) ok rfl
      rw [Bool.true_xor] at z
      exact ⟨.bl (!(xs.length == ys.length)), l.H, I, rfl, z⟩
    · exact run.elim
  · rename_i a b
    have z := run l (.bl (xor true (a == b))) (Step.refl l) ok rfl
    cases (show x = .str a from rp)
    cases (show y = .str b from rq)
    refine op_ne pins s σ l.H _ _ v u Q I rx ry ⟨rfl, ?_⟩
    rw [dec_strV]
    rw [Bool.true_xor] at z
    exact z
  · exact run.elim
/-- == of data, or of a list and an empty list -/
@[simp] def gEq (neg : Bool) : PV → PV → S → R S PV := fun p q s => if okD 8 p = true ∧ okD 8 q = true then .ok (.bl (xor neg (eqP p q))) s else fEqE neg p q s
theorem gEq_str (neg : Bool) (a b : Str) (s : S) : gEq neg (.str a) (.str b) s = .ok (.bl (xor neg (a == b))) s := by
  unfold gEq
  split
  · simp [eqP]
  · rfl
theorem gEq_ok (neg : Bool) (p q : PV) (s : S) : gEq neg p q s = .bad ∨ orB (gEqD neg p q s) (fEqE neg p q s) = gEq neg p q s := by
  refine .inr ?_
  simp only [gEq, gEqD]
  split <;> rfl
theorem o_eqA (hu : X.A.units + 64 < cLine) : OJ X g (compareOp .Eq) (gEq false) := ((o_eq hu).or (o_eqE hu)).below fun p q s => gEq_ok false p q s
theorem o_neA (hu : X.A.units + 64 < cLine) : OJ X g (compareOp .NotEq) (gEq true) := ((o_ne hu).or (o_neE hu)).below fun p q s => gEq_ok true p q s
end
end L3
namespace L3
open PySem PySem.Spec PyProof.Rows L2
theorem DefX.funD {K : PySem.W.Frag} {d : DefX} (e : fnX K (d.ad K) = d.val) (c : d.ok K = true) : ∃ fd, FunD K d.name d.qual d.params d.body d.scope (d.dvs K) (d.kws K) (d.ad K) fd := by
  obtain ⟨kp, c2⟩ := He.ba c
  unfold fnX at e
  revert c2 e
  cases q : K.lookup (d.ad K) with
  | none => exact fun e c2 => nomatch c2
  | some o =>
    obtain ⟨oc, od, dt, osl⟩ := o
    cases dt with
    | func fd =>
      intro e c2
      obtain ⟨n1, n2, n3, n4, n5, n6, n7, n8, n9, n10, n11, n12, n13, n14, n15⟩ := fd
      have e2 : (some (n1, n2, n3, n4, n5, n6, n7, n15) : He.FnW) = some (d.name, d.qual, d.params, .stmts d.body, d.scope, mainGlobals, [], builtinsNs) := e
      simp only [Option.some.injEq, Prod.mk.injEq] at e2
      obtain ⟨g1, g2, g3, g4, g5, g6, g7, g8⟩ := e2
      subst g1 g2 g3 g4 g5 g6 g7 g8
      obtain ⟨k1, k2⟩ := He.ba (show (PySem.W.codeIn K n13 d.qual && (He.dflB K n8 (d.dvs K) && He.kwdB K n9 (d.kws K))) = true from c2)
      obtain ⟨k3, k4⟩ := He.ba k2
      exact ⟨_, ⟨oc, od, n8, n9, n10, n11, n12, n13, n14, osl, rfl, q, k1, He.dflB_ok k3, He.kwdB_ok k4⟩, kp⟩
    | _ => exact fun e c2 => nomatch c2
section
variable {fa : List He.Fa} {xs : List (PySem.W.Frag → Bool)} {fn : List DefX} {K : PySem.W.Frag}
theorem SaysX.fact (c : SaysX fa xs fn K) (i : Nat) {f : He.Fa} (h : fa[i]? = some f := by rfl) : f.ok K = true :=
  List.all_eq_true.mp (He.ba (show ((fa.all fun f => f.ok K) && ((xs.all fun x => x K) && fn.all fun d => d.ok K)) = true from congrArg (fun z : AlX => z.1) c)).1 f (List.mem_of_getElem? h)
theorem SaysX.chk (c : SaysX fa xs fn K) (i : Nat) {x : PySem.W.Frag → Bool} (h : xs[i]? = some x := by rfl) : x K = true :=
  List.all_eq_true.mp (He.ba (He.ba (show ((fa.all fun f => f.ok K) && ((xs.all fun x => x K) && fn.all fun d => d.ok K)) = true from congrArg (fun z : AlX => z.1) c)).2).1 x (List.mem_of_getElem? h)
theorem SaysX.def_ (c : SaysX fa xs fn K) (i : Nat) {d : DefX} (h : fn[i]? = some d := by rfl) : ∃ fd, FunD K d.name d.qual d.params d.body d.scope (d.dvs K) (d.kws K) (d.ad K) fd := by
  have c2 := (He.ba (He.ba (show ((fa.all fun f => f.ok K) && ((xs.all fun x => x K) && fn.all fun d => d.ok K)) = true from congrArg (fun z : AlX => z.1) c)).2).2
  have e : fn.map (fun d => fnX K (d.ad K)) = fn.map DefX.val := congrArg (fun z : AlX => z.2) c
  have e2 : (fn.map fun d => fnX K (d.ad K))[i]? = (fn.map DefX.val)[i]? := by rw [e]
  rw [List.getElem?_map, List.getElem?_map, h] at e2
  exact DefX.funD (Option.some.inj e2) (List.all_eq_true.mp c2 d (List.mem_of_getElem? h))
end
theorem propB_ok {m : Str} {K : PySem.W.Frag} (h : propB m K = true) : PropOf K (He.ga K "Ratio") m (He.ma K (He.ga K "Ratio") m) (getAd m K) := by
  obtain ⟨h1, h⟩ := He.ba h
  obtain ⟨h2, h⟩ := He.ba h
  obtain ⟨h3, h4⟩ := He.ba h
  refine ⟨He.eqO_ok h1, He.eqO_ok h2, of_decide_eq_true h3, ?_⟩
  unfold getAd
  split at h4
  · rename_i f r e
    exact ⟨r, by rw [e]⟩
  · cases h4
end L3
namespace L3
open PySem PySem.Spec PyProof.Rows L2
/-- what the law's promise asks, from the plain law -/
theorem law_sp {K : PySem.W.Frag} {CR : Addr} {F : DF} {n : Nat} (h : ∀ ns : List Int, ns.length ≤ n → ∃ mu', F [.frz (ns.map .int)] [] = .ok (.bl true) mu') (H : Hp) (a : Addr) (ns : List Int) (hl : ns.length ≤ n) (hT : ∀ x ∈ TK K, H (tA K x) = some (.tbl #[])) (hS : SqL K H a (ns.map V.int)) :
    spJ K CR 1 F [.ref a] H (fun v _ => v = .bl true) fun _ _ _ => False := by
  obtain ⟨mu', e⟩ := h ns hl
  have rl : ∀ (ns : List Int), RepGL K ⟨CR, fun _ => False, W0⟩ ⟨[], fun a => IsT K a, H⟩ (ns.map PV.int) (ns.map V.int) := fun ns => by
    induction ns with
    | nil => rfl
    | cons i r ih => exact ⟨.int i, _, rfl, rfl, ih⟩
  have nT : ∀ o, Rd H a (.lst o) → ¬ IsT K a := fun o e ⟨x, hx, z⟩ => by
    rw [z] at e
    rcases e with e | ⟨u, e⟩
    · rw [hT x hx] at e; cases e
    · rw [hT x hx] at e; cases e
  refine ⟨fun _ => False, ⟨[], fun a => IsT K a, H⟩, [.frz (ns.map .int)], [], rfl, ⟨fun a => by simp, ⟨rfl, fun i v e => by simp at e, fun i v e => by simp at e, fun i j xs ys a _ e => by simp at e, rfl, fun n a m h1 _ => by simp at h1, List.nodup_nil, fun a h => by simp at h, fun a h => ?_, fun a _ h => h.elim, fun x hx => ⟨⟨x, hx, rfl⟩, by simp, #[], hT x hx, trivial, fun pos cv z => ?_⟩⟩⟩, ?_, rfl, ?_⟩
  · obtain ⟨x, hx, z⟩ : IsT K a := h.elim id False.elim
    rw [z]
    show H _ ≠ none
    rw [hT x hx]; simp
  · have z : codeAmong pos [] = some cv := z
    simp [codeAmong] at z
  · refine ⟨.ref a, [], rfl, ⟨a, ns.map V.int, rfl, ?_, rl ns⟩, rfl⟩
    rcases hS with hS | hS
    · exact .inl ⟨fun z => by rcases z with z | z; exact nT _ hS z; exact z, hS⟩
    · exact .inr hS
  · rw [e]
    intro l' u _ _ r
    exact r
end L3
namespace L3
open PySem PySem.Spec PyProof.Rows L2
end L3
namespace L3
open PySem PySem.Spec PyProof.Rows L2
/-- a promise that lets nothing out, whatever is wished of exceptions -/
theorem calm_of {P : Program} {w : World} {K : PySem.W.Frag} {mg : Str → Option Value} {base : Heap} {CX : CXT} {k : Nat} {f : Addr} {fd : FuncData} {ps : List Str} {sp : Sp} (F : FnG P w K mg base (L2.CX P w) k f fd ps sp) : FnG P w K mg base CX k f fd ps (fun vs H Q _ => sp vs H Q fun _ _ _ => False) where
  len := fun vs H Q E h => F.len vs H Q _ h
  run := fun A outer s H args us vs Q E hr e0 hb r h => codeAny_mono (F.run A outer s H args us vs Q _ hr e0 hb r h) fun r s' hq => by
    cases r with
    | error e =>
      obtain ⟨_, _, _, _, _, _, _, _, _, _, _, _, z⟩ := (show L2.CX P w outer H s (fun _ _ _ => False) e s' from hq)
      exact z.elim
    | ok fl => cases fl <;> exact hq
end L3
namespace L3
open PySem PySem.W PyProof.Rows
section
variable {prog : Program} {w : World} {A : Around} {E : Value → Shared → Prop} {s : Shared} {K : Frag} {x C L f : Addr} {h₀ : Heap} {m : Str → Option Value} {ox : Obj} {od : Option Obj} {b tb : Value}
theorem slot_ne : Slot "object" "__ne__" "object.__ne__" :=
  Slot.of (T := "object") (name := "__ne__") (owner := "object") (n := "__ne__") (by rw [typeLookup_type, builtinLookup_eq_fast]; kernel_rfl) (by decide +kernel) (by decide +kernel) (by decide +kernel) (.inl (by decide +kernel)) (by rw [isSubtype_type]; kernel_rfl)
theorem bound_blt {id : String} {name : Str} {T : String} {args : List Value} {Q : Option Value → Shared → Prop} (X : K.In s.heap) (I : InstAt s.heap x ox C od) (hs : findIn K (.ref C) name = some (some (.builtin id))) (S : Slot T name id)
    (h : wpAny (model prog w) A (call (.builtin id) (.ref x :: args)) (fun v => Q (some v)) E s) : wpAny (model prog w) A (callSpecialIfBound? (.ref x) name args) Q E s := by
  simp only [callSpecialIfBound?, bindSpecialIfBound?]
  refine wpAny_holding (wpAny_bind (wpAny_bind (wpAny_bind (I.type.here (Looks.here (looks_findIn X hs) ?_)))))
  simp only [S.bind]
  have go : wpAny (model prog w) A (call (.builtin id) ([.ref x] ++ args) >>= fun v => pure (some v)) Q E s := wpAny_bind (wpAny_mono h (fun _ _ z => wpAny_pure z) fun _ _ z => z)
  refine wpAny_bind (wpAny_askSetting ?_)
  refine wpAny_ite ?_
  split
  · exact wpAny_bind (wpAny_pure (wpAny_pure go))
  · exact wpAny_tryCatch (wpAny_bind (wpAny_pure (wpAny_pure go)))
theorem ne_K {Q : Value → Shared → Prop} (hu : A.units + 1 < cLine) (F : Fr h₀ L s.heap m) (X₀ : K.In h₀) (I : InstAt s.heap x ox C od) (hb : Looks (model prog w) s.heap (typeOf b) tb) (hn : notFirst K C tb = true)
    (hN : findIn K (.ref C) "__ne__" = some (some (.builtin "object.__ne__"))) (hm : mroIn K C (.type "object") = some true) (hs : findIn K (.ref C) "__eq__" = some (some (.ref f))) (hf : isFn K (.ref f) = true)
    (h : wpAny (model prog w) A.in1 (call (.ref f) [.ref x, b]) (fun v s' => ∃ k, v = .bool k ∧ Q (.bool (!k)) s') E s) : wpAny (model prog w) A (richCompare .NotEq (.ref x) b) Q E s := by
  have X := X₀.keeps F.keep
  have hu0 : A.units < cLine := by omega
  have hu1 : A.in1.units < cLine := hu
  have one : wpAny (model prog w) A (tryCompare (.ref x) "__ne__" b) (fun r s' => ∃ v, r = some v ∧ Q v s') E s := by
    unfold tryCompare
    refine wpAny_bind (bound_blt X I hN slot_ne (wpAny_call (codeAny_call_builtin slot_ne.plain PySem.F.cmpEntry_ne (check_slot PySem.F.cmpKind_ne PySem.F.cmpSplit_ne (I.type.andThen (looks_mroIn X hm)) (PySem.F.cmpArgs_ne _ _) ?_))))
    unfold Builtin.«object.__ne__»
    obtain ⟨hh, g, d, t, os⟩ := s
    repeat (first
      | with_reducible refine wpAny_cRoomFor hu1 ?_
      | (refine wpAny_bind (m := callSpecialIfBound? (.ref x) (Str.ofString "__eq__") [b])
          (ifBound_K X I hs hf (wpAny_mono h (fun r s' hr => by
            obtain ⟨b, rfl, hq⟩ := hr
            repeat (first | exact ⟨_, rfl, hq⟩ | exact wpAny_pure ⟨_, rfl, hq⟩ | exact wpAny_pure (wpAny_pure ⟨_, rfl, hq⟩) | (refine wpAny_bind (m := truthy (.bool _)) (wpAny_truthy_bool ?_)) | wp_step)) fun _ _ e => e)))
      | wp_step)
  have rest : wpAny (model prog w) A (tryCompare (.ref x) "__ne__" b) (fun o s2 => ∃ u, o = some u ∧ Q u s2) E s := one
  have sub : tb ≠ .ref C → subIn K tb (.ref C) = some false := fun hne => (Bool.or_eq_true_iff.mp hn).elim (fun h1 => absurd (beq_iff_eq.mp h1) hne) beq_iff_eq.mp
  unfold richCompare
  simp only [oneThing_ref]
  refine wpAny_holding (wpAny_bind (wpAny_cRoomFor hu0 (wpAny_bind (I.type.here (wpAny_bind (hb.here ?_))))))
  split
  · rename_i hq
    have hne : tb ≠ .ref C := fun z => by rw [z] at hq; simp at hq
    refine wpAny_bind ((looks_subIn X (sub hne)).here ?_)
    rw [if_neg Bool.false_ne_true]
    exact wpAny_bind (wpAny_mono rest (fun o s2 ⟨u, ho, hu2⟩ => by rw [ho]; exact wpAny_pure hu2) fun _ _ z => z)
  · refine wpAny_bind (wpAny_pure (a := false) ?_)
    rw [if_neg Bool.false_ne_true]
    exact wpAny_bind (wpAny_mono rest (fun o s2 ⟨u, ho, hu2⟩ => by rw [ho]; exact wpAny_pure hu2) fun _ _ z => z)
end
end L3
namespace L3
open PySem PySem.Spec PyProof.Rows L2
def HasBn (P : Program) (w : World) (K : PySem.W.Frag) (mg : Str → Option Value) (base : Heap) (CR : Addr) (nm : String) (k : Nat) (F : DF) : Prop := ∃ f, BinF K CR f nm ∧ At P w K mg base CR f k ["self", "other"] F
def HasUn (P : Program) (w : World) (K : PySem.W.Frag) (mg : Str → Option Value) (base : Heap) (CR : Addr) (nm : Str) (k : Nat) (F : DF) : Prop := ∃ f, UnF K CR f nm ∧ At P w K mg base CR f k ["self"] F
def HasCm (P : Program) (w : World) (K : PySem.W.Frag) (mg : Str → Option Value) (base : Heap) (CR : Addr) (k : Nat) (F : DF) : Prop :=
  (PySem.W.findIn K (.ref CR) "__ne__" = some (some (.builtin "object.__ne__")) ∧ PySem.W.mroIn K CR (.type "object") = some true) ∧ ∃ f, CmpF K CR f "__eq__" ∧ At P w K mg base CR f k ["self", "other"] F
theorem rfO_ok {o : Option (Option Value)} (h : rfO o = true) : o = some none ∨ ∃ g : Addr, o = some (some (.ref g)) := by
  unfold rfO at h
  split at h
  · exact .inl rfl
  · exact .inr ⟨_, rfl⟩
  · cases h
theorem binB_ok {nm : String} {K : PySem.W.Frag} (h : binB nm K = true) : BinF K (He.ga K "Ratio") (He.ma K (He.ga K "Ratio") (PySem.dunder nm)) nm := by
  obtain ⟨h1, h⟩ := He.ba h
  obtain ⟨h2, h⟩ := He.ba h
  obtain ⟨h3, h⟩ := He.ba h
  obtain ⟨h4, h⟩ := He.ba h
  obtain ⟨h5, h⟩ := He.ba h
  obtain ⟨h6, h7⟩ := He.ba h
  exact ⟨h1, He.eqO_ok h2, h3, rfO_ok h4, Option.isSome_iff_exists.mp h5, Option.isSome_iff_exists.mp h6, of_decide_eq_true h7⟩
theorem unB_ok {nm : Str} {K : PySem.W.Frag} (h : unB nm K = true) : UnF K (He.ga K "Ratio") (He.ma K (He.ga K "Ratio") nm) nm := by
  obtain ⟨h1, h2⟩ := He.ba h
  exact ⟨He.eqO_ok h1, h2⟩
theorem cmpB_ok {K : PySem.W.Frag} (h : cmpB K = true) : (PySem.W.findIn K (.ref (He.ga K "Ratio")) "__ne__" = some (some (.builtin "object.__ne__")) ∧ PySem.W.mroIn K (He.ga K "Ratio") (.type "object") = some true) ∧ CmpF K (He.ga K "Ratio") (He.ma K (He.ga K "Ratio") "__eq__") "__eq__" := by
  obtain ⟨h0, h⟩ := He.ba h
  obtain ⟨h1, h2⟩ := He.ba h0
  obtain ⟨h3, h⟩ := He.ba h
  obtain ⟨h4, h5⟩ := He.ba h
  have u := unB_ok h3
  refine ⟨⟨He.eqO_ok h1, of_decide_eq_true h2⟩, u.at_, u.fn, h4, fun t ht => List.all_eq_true.mp h5 t ?_⟩
  rcases ht with rfl | rfl | rfl | rfl <;> simp
/-- a binary operator: a ratio on the left, or what h says -/
def gRL (F : DF) (h : PV → PV → S → R S PV) : PV → PV → S → R S PV := fun p q s => match p, q with
  | .rat a, .rat b => fMt 2 F [.rat a, .rat b] s
  | .rat a, .int b => fMt 2 F [.rat a, .int b] s
  | p, q => h p q s
/-- .. or on either side -/
def gRR (F FR : DF) (h : PV → PV → S → R S PV) : PV → PV → S → R S PV := fun p q s => match p, q with
  | .rat a, .rat b => fMt 2 F [.rat a, .rat b] s
  | .rat a, .int b => fMt 2 F [.rat a, .int b] s
  | .int a, .rat b => fMt 2 FR [.rat b, .int a] s
  | p, q => h p q s
def gR1 (F : DF) (h : PV → S → R S PV) : PV → S → R S PV := fun p s => match p with
  | .rat a => fMt 1 F [.rat a] s
  | p => h p s
def gEqR (F : DF) (h : PV → PV → S → R S PV) : PV → PV → S → R S PV := fun p q s => match p, q with
  | .rat a, .rat b => fMt 2 F [.rat a, .rat b] s
  | .rat a, .int b => fMt 2 F [.rat a, .int b] s
  | .rat a, .bl b => fMt 2 F [.rat a, .bl b] s
  | .rat a, .str b => fMt 2 F [.rat a, .str b] s
  | .rat a, .non => fMt 2 F [.rat a, .non] s
  | p, q => h p q s
@[simp] def notK : PV → S → R S PV := fun v s => match v with
  | .bl b => .ok (.bl (!b)) s
  | _ => .bad
def gNeR (F : DF) (h : PV → PV → S → R S PV) : PV → PV → S → R S PV := fun p q s => match p, q with
  | .rat a, .rat b => (fMt 2 F [.rat a, .rat b] s).bind notK
  | .rat a, .int b => (fMt 2 F [.rat a, .int b] s).bind notK
  | .rat a, .bl b => (fMt 2 F [.rat a, .bl b] s).bind notK
  | .rat a, .str b => (fMt 2 F [.rat a, .str b] s).bind notK
  | .rat a, .non => (fMt 2 F [.rat a, .non] s).bind notK
  | p, q => h p q s
section
variable {X : Cx} {g : Gx} {f : Addr} {fn : List PV → S → R S PV} {op : Operator} {F FR : DF} {k k' : Nat} {h : PV → PV → S → R S PV}
theorem OJ.rl (hB : HasBn X.prog X.w X.K X.mg X.base g.CR op.info.2 k F) (hr : Room k X.A) (tk : Takes X g.W) (ho : OJ X g (binaryOp op) h) : OJ X g (binaryOp op) (gRL F h) := by
  obtain ⟨f, B, hA⟩ := hB
  have hl := o_ratL B (hA.jr hr tk 2)
  intro pins s σ x y v u Q l st p q I rx ry ok rp rq run
  cases p <;> first
    | exact ho pins s σ x y v u Q l st _ q I rx ry ok rp rq run
    | (cases q <;> first
      | exact hl pins s σ x y v u Q l st _ _ I rx ry ok rp rq run
      | exact ho pins s σ x y v u Q l st _ _ I rx ry ok rp rq run)
theorem UJ.neg (hB : HasUn X.prog X.w X.K X.mg X.base g.CR "__neg__" k F) (hr : Room k X.A) (tk : Takes X g.W) : UJ X g (unaryOp .USub) (gR1 F fNegI) := by
  obtain ⟨f, B, hA⟩ := hB
  have hl := u_negR B (hA.jr hr tk 1)
  intro pins s σ x v Q l st p I rx ok rp run
  cases p <;> first
    | exact u_negI pins s σ x v Q l st _ I rx ok rp run
    | exact hl pins s σ x v Q l st _ I rx ok rp run
end
section
variable {X : Cx} {g : Gx} {F : DF} {k : Nat}
theorem o_neL {f : Addr} {fn : List PV → S → R S PV} (hr : Room (k + 1) X.A) (hN : PySem.W.findIn X.K (.ref g.CR) "__ne__" = some (some (.builtin "object.__ne__"))) (hm : PySem.W.mroIn X.K g.CR (.type "object") = some true) (B : CmpF X.K g.CR f "__eq__") (hc : KA X g k f fn) :
    OJ X g (compareOp .NotEq) (fun p q s => match p, q with
      | .rat a, .rat b => (fn [.rat a, .rat b] s).bind notK
      | .rat a, .int b => (fn [.rat a, .int b] s).bind notK
      | .rat a, .bl b => (fn [.rat a, .bl b] s).bind notK
      | .rat a, .str b => (fn [.rat a, .str b] s).bind notK
      | .rat a, .non => (fn [.rat a, .non] s).bind notK
      | _, _ => .bad) := by
  intro pins s σ x y v u Q l st p q I rx ry ok rp rq run
  rw [show compareOp .NotEq = richCompare .NotEq from rfl]
  cases p with
  | rat a =>
    obtain ⟨a1, dx, rfl, n, hH⟩ := id rp
    cases (show v = .ref a1 from rx)
    obtain ⟨mA, O, _⟩ := ins_get I.hok hH
    obtain ⟨od, J, _⟩ := O.look
    obtain ⟨m, hF⟩ := I.fr
    have hu : X.A.units + 1 < cLine := by have := hr.units; omega
    have go : ∀ {tb : Value} {q' : PV}, PySem.W.Looks (model X.prog X.w) s.heap (typeOf u) tb → PySem.W.notFirst X.K g.CR tb = true → RepG X.K g l q' y → Run X.K g ((fn [.rat a, q'] st).bind notK) l σ Q → wpAny (model X.prog X.w) X.A (richCompare .NotEq (.ref a1) u) (EP X pins σ Q) X.xe s := fun hb hn rq' run' => by
      refine ne_K hu hF I.ok.mod.kin J hb hn hN hm B.at_ B.fn (wpAny_call (codeAny_mono (hc X.A.in1 ⟨hr.in1, rfl⟩ pins s σ [.ref a1, y] [.ref a1, u] _ l st [.rat a, _] I (.cons rfl (.cons ry .nil)) ok ⟨_, _, rfl, rp, _, _, rfl, rq', rfl⟩ (Run.bind run')) fun r s' z => ?_))
      cases r with
      | error e => exact z
      | ok fl =>
        cases fl with
        | ret w =>
          obtain ⟨x', H', I', r', l1, s1, v1, e1, ok1, rv, st1, z⟩ := z
          subst e1
          cases v1 with
          | bl b =>
            cases (show x' = .bl b from rv)
            cases (show w = Value.bool b from r')
            exact ⟨b, rfl, .bl (!b), _, I', rfl, z l1 (.bl (!b)) (Step.refl _) ok1 rfl⟩
          | _ => exact z.elim
        | next => exact z.elim
        | brk => exact z.elim
        | cont => exact z.elim
    cases q with
    | rat b =>
      obtain ⟨b1, dy, e, n2, hH2⟩ := id rq
      subst e
      cases (show u = .ref b1 from ry)
      obtain ⟨mB, O2, _⟩ := ins_get I.hok hH2
      obtain ⟨od2, J2, _⟩ := O2.look
      exact go J2.type B.n0 rq run
    | int b =>
      cases (show y = .int b from rq)
      obtain ⟨t, rfl⟩ := (show ∃ t, u = Value.int b t from ry)
      exact go (q' := .int b) (PySem.W.Looks.of_pure rfl) (B.n1 "int" (.inl rfl)) rfl run
    | bl b =>
      cases (show y = .bl b from rq)
      cases (show u = Value.bool b from ry)
      exact go (PySem.W.Looks.of_pure rfl) (B.n1 "bool" (.inr (.inl rfl))) (show RepG X.K g l (.bl b) (.bl b) from rfl) run
    | str b =>
      cases (show y = .str b from rq)
      obtain ⟨t, rfl⟩ := (show ∃ t, u = Value.str b t from ry)
      exact go (PySem.W.Looks.of_pure rfl) (B.n1 "str" (.inr (.inr (.inl rfl)))) (show RepG X.K g l (.str b) (.str b) from rfl) run
    | non =>
      cases (show y = .non from rq)
      cases (show u = Value.none from ry)
      exact go (PySem.W.Looks.of_pure rfl) (B.n1 "NoneType" (.inr (.inr (.inr rfl)))) (show RepG X.K g l .non .non from rfl) run
    | _ => exact run.elim
  | _ => exact run.elim
theorem OJ.neR (hB : HasCm X.prog X.w X.K X.mg X.base g.CR k F) (hr : Room (k + 1) X.A) (tk : Takes X g.W) {h : PV → PV → S → R S PV} (ho : OJ X g (compareOp .NotEq) h) : OJ X g (compareOp .NotEq) (gNeR F h) := by
  obtain ⟨⟨hN, hm⟩, f, B, hA⟩ := hB
  have hl := o_neL hr hN hm B (hA.ka tk)
  intro pins s σ x y v u Q l st p q I rx ry ok rp rq run
  cases p <;> first
    | exact ho pins s σ x y v u Q l st _ q I rx ry ok rp rq run
    | (cases q <;> first
      | exact hl pins s σ x y v u Q l st _ _ I rx ry ok rp rq run
      | exact ho pins s σ x y v u Q l st _ _ I rx ry ok rp rq run)
end
end L3
namespace L3
open PySem PySem.Spec PyProof.Rows L2
@[simp] def dFnD (F : DF) (n : Nat) (dps : List PV) (da : DA) : DE := fun s => (da s).bind fun ps s1 => if ps.length = n then fnS F (ps ++ dps) s1 else .bad
/-- n values and the keywords ks; gP lays them in the parameters' order -/
def HasK (P : Program) (w : World) (K : PySem.W.Frag) (mg : Str → Option Value) (base : Heap) (CR : Addr) (x : Str) (k : Nat) (ps : List Str) (n : Nat) (ks : List Str) (gP : List PV → List PV → List PV) (F : DF) : Prop :=
  (∀ us zs : List PV, us.length = n → zs.length = ks.length → (gP us zs).length = ps.length) ∧
  ∃ f fd g gV, mg x = some (.ref f) ∧ PySem.W.keepIn K (.ref f) = true ∧ KBn K fd ps n ks g gV ∧ (∀ (CR : Addr) (al : List Addr) (L : Addr → Prop) (H : Hp) us zs vs ws, us.length = n → zs.length = ks.length → RepL K CR al L H us vs → RepL K CR al L H zs ws → RepL K CR al L H (gP us zs) (gV vs ws)) ∧ FJ P w K mg base CR k f fd ps F
@[simp] def dFnK (F : DF) (n m : Nat) (gP : List PV → List PV → List PV) (da dk : DA) : DE := fun s => (da s).bind fun ps s1 => (dk s1).bind fun zs s2 => if ps.length = n ∧ zs.length = m then fnS F (gP ps zs) s2 else .bad
section
variable {X : Cx} {g : Gx} {a b c e : Expr} {es : List Expr} {da db dc de : DE} {dr dk : DA} {pos p : Pos} {x : Str} {f : Addr} {k n : Nat} {ps : List Str} {F : DF} {dps : List PV}
/-- keywords' values -/
abbrev JK (X : Cx) (g : Gx) (kws : List Keyword) (d : DA) : Prop := PK X kws (LA X.K g d)
theorem PK.cq {kws : List Keyword} {t t' : TA} (h : PK X kws t) (i : ∀ σ H Q, t' σ H Q → t σ H Q) : PK X kws t' := ⟨fun pos pins s σ H Q I q => h.run pos pins s σ H Q I (i σ H Q q)⟩
theorem jk_nil : JK X g [] dNil := PK.cq pk_nil fun σ H Q q => by
  obtain ⟨l, s, rfl, ok, q⟩ := q
  exact q l [] (Step.refl l) ok rfl
theorem jk_cons {kws : List Keyword} {nm : Option Str} {kpos : Pos} (ha : JE X g e de) (hr : JK X g kws dk) : JK X g (⟨nm, e, kpos⟩ :: kws) (dCons de dk) := PK.cq (pk_cons ha hr) fun σ H Q q => by
  obtain ⟨l, s, rfl, ok, q⟩ := q
  refine ⟨l, s, rfl, ok, Run.mono (Run.bindA q) fun u H1 ⟨l1, s1, v, e1, ok1, r1, st1, h1⟩ => ?_⟩
  refine ⟨l1, s1, e1, ok1, RunA.mono (RunA.bindA h1) fun us H2 ⟨l2, s2, vs, e2, ok2, r2, st2, h2⟩ => ?_⟩
  subst e2
  exact h2 l2 (u :: us) (Step.refl _) ok2 ⟨u, us, rfl, st2.rep r1, r2⟩
end
end L3
namespace L3
open PySem PySem.Spec PyProof.Rows L2
section
variable {α : Type} (le : α → α → Bool)
def insB (x : α) : List α → List α
  | [] => [x]
  | y :: r => if le x y = true then x :: y :: r else y :: insB x r
def srt : List α → List α
  | [] => []
  | x :: r => insB le x (srt r)
theorem insB_perm (x : α) : ∀ l : List α, (insB le x l).Perm (x :: l)
  | [] => .refl _
  | y :: r => by
    unfold insB
    split
    · exact .refl _
    · exact ((insB_perm x r).cons y).trans (List.Perm.swap x y r)
theorem srt_perm : ∀ l : List α, (srt le l).Perm l
  | [] => .refl _
  | x :: r => (insB_perm le x _).trans ((srt_perm r).cons x)
variable {le} (tot : ∀ a b, le a b = true ∨ le b a = true) (tr : ∀ a b c, le a b = true → le b c = true → le a c = true) (as : ∀ a b, le a b = true → le b a = true → a = b)
include tot tr in
theorem insB_sorted (x : α) : ∀ l : List α, l.Pairwise (fun a b => le a b = true) → (insB le x l).Pairwise (fun a b => le a b = true)
  | [], _ => List.pairwise_singleton ..
  | y :: r, h => by
    unfold insB
    rw [List.pairwise_cons] at h
    split
    · rename_i hx
      refine List.pairwise_cons.mpr ⟨fun z hz => ?_, List.pairwise_cons.mpr h⟩
      rcases List.mem_cons.mp hz with e | e
      · rw [e]; exact hx
      · exact tr _ _ _ hx (h.1 z e)
    · rename_i hx
      refine List.pairwise_cons.mpr ⟨fun z hz => ?_, insB_sorted x r h.2⟩
      rcases List.mem_cons.mp ((insB_perm le x r).mem_iff.mp hz) with e | e
      · rw [e]; exact (tot x y).resolve_left hx
      · exact h.1 z e
include tot tr in
theorem srt_sorted : ∀ l : List α, (srt le l).Pairwise (fun a b => le a b = true)
  | [] => List.Pairwise.nil
  | x :: r => insB_sorted tot tr x _ (srt_sorted r)
include as in
theorem sorted_uniq : ∀ {a b : List α}, a.Perm b → a.Pairwise (fun a b => le a b = true) → b.Pairwise (fun a b => le a b = true) → a = b
  | [], b, p, _, _ => (List.nil_perm.mp p).symm
  | x :: r, b, p, h1, h2 => by
    cases b with
    | nil => exact absurd (List.perm_nil.mp p) (by simp)
    | cons y q =>
      rw [List.pairwise_cons] at h1 h2
      have e : x = y := by
        have m1 : x ∈ y :: q := p.mem_iff.mp List.mem_cons_self
        have m2 : y ∈ x :: r := p.mem_iff.mpr List.mem_cons_self
        rcases List.mem_cons.mp m1 with e | e
        · exact e
        · rcases List.mem_cons.mp m2 with e2 | e2
          · exact e2.symm
          · exact as _ _ (h1.1 y e2) (h2.1 x e)
      subst e
      rw [sorted_uniq (p.cons_inv) h1.2 h2.2]
end
def leI (a b : Int) : Bool := decide (a ≤ b)
abbrev isort (l : List Int) : List Int := srt leI l
theorem isort_uniq {a l : List Int} (p : a.Perm l) (h : a.Pairwise (· ≤ ·)) : a = isort l :=
  sorted_uniq (le := leI) (fun a b h1 h2 => Int.le_antisymm (of_decide_eq_true h1) (of_decide_eq_true h2)) (p.trans (srt_perm leI l).symm) (h.imp fun q => decide_eq_true q)
    (srt_sorted (le := leI) (fun a b => by unfold leI; rcases Int.le_total a b with h | h <;> simp [h]) (fun a b c h1 h2 => decide_eq_true (Int.le_trans (of_decide_eq_true h1) (of_decide_eq_true h2))) l)
@[simp] def fSortI : List PV → S → R S PV := fun ps s => match ps with
  | [.lst xs] => (match intsP xs with
    | some is => .ok (.lst ((isort is).map .int)) s
    | none => .bad)
  | _ => .bad
@[simp] def boolsP : List PV → Option (List Bool)
  | [] => some []
  | .bl b :: r => (match boolsP r with | some bs => some (b :: bs) | none => none)
  | _ => none
@[simp] def fAll : List PV → S → R S PV := fun ps s => match ps with
  | [.lst xs] => (match boolsP xs with
    | some bs => .ok (.bl (bs.all id)) s
    | none => .bad)
  | _ => .bad
/-- x in a list, x and its items data -/
@[simp] def gIn (neg : Bool) : PV → PV → S → R S PV := fun p q s => match q with
  | .lst xs => if okD 8 p = true ∧ okD 8 (.lst xs) = true then .ok (.bl (xor neg (xs.any fun z => eqP z p))) s else .bad
  | .tup xs => if okD 8 p = true ∧ okD 8 (.tup xs) = true then .ok (.bl (xor neg (xs.any fun z => eqP z p))) s else .bad
  | .str y => (match p with
    | .str x => .ok (.bl (xor neg (!(Builtin.Str.occurrences y x 0 y.length 1).isEmpty))) s
    | _ => .bad)
  | _ => .bad
theorem ints_rep {K : PySem.W.Frag} {CR : Addr} {al : List Addr} {L : Addr → Prop} {H : Hp} : ∀ (is : List Int), RepL K CR al L H (is.map .int) (is.map V.int)
  | [] => rfl
  | i :: is => ⟨_, _, rfl, rfl, ints_rep is⟩
section
variable {X : Cx} {g : Gx} {a b c e : Expr} {da db dc de : DE} {pos : Pos}
theorem c_sortedI : CJ X g (fun us => call (.builtin "sorted") us) fSortI := CJ.of cr_sortedI fun l st σ ps xs Q ok rp run => by
  unfold fSortI at run
  split at run
  · rename_i ys
    split at run
    · rename_i is e
      obtain ⟨v, r, rfl, h1, h2⟩ := rp
      cases (show r = [] from h2)
      obtain ⟨a, vs, rfl, _, ha, ra⟩ := h1
      refine ⟨a, is, rfl, by rw [← intsP_rep e ra]; exact SqL.of ha, fun ns' q hp hs hq => ?_⟩
      rw [isort_uniq hp hs]
      exact Run.lst run ok (ints_rep _) q hq
    · exact run.elim
  · exact run.elim
end
end L3
namespace L3
open PySem PySem.Spec PyProof.Rows L2 PySem.Calls
end L3
namespace L3
open PySem PySem.Spec PyProof.Rows L2 PySem.Calls
end L3
namespace L3
open PySem PySem.Spec PyProof.Rows L2 PySem.Calls
end L3
namespace L3
open PySem PySem.Spec PyProof.Rows L2 PySem.Calls
section
variable {X : Cx} {g : Gx} {o e : Expr} {es : List Expr} {da : DE} {dr : DA}
@[simp] def fCount : PV → List PV → S → R S PV := fun p ps s => match p, ps with
  | .lst xs, [x] => if okD 8 x = true ∧ okD 8 (.lst xs) = true then .ok (.int (xs.countP fun z => eqP z x : Nat)) s else .bad
  | _, _ => .bad
@[simp] def fMaxL : List PV → S → R S PV := fun ps s => match ps with
  | [.lst xs] => (match intsP xs with
    | some (i :: is) => .ok (.int (is.foldl max i)) s
    | _ => .bad)
  | _ => .bad
/-- xs.count(x) -/
@[simp] def dCount (da : DE) (dr : DA) : DE := fun s => (da s).bind fun p s1 => match p with
  | .lst xs => (dr s1).bind fun ps s2 => fCount (.lst xs) ps s2
  | _ => .bad
end
end L3
namespace L3
open PySem PySem.Spec PyProof.Rows L2
theorem room_top {k : Nat} (h : L2.Room k callerA) : Room k callerA := ⟨h, rfl⟩
end L3
namespace L3
open PySem PySem.Spec PyProof.Rows L2
mutual
/-- what can be shown: ints below 2 ^ 1920 -/
def okS : PV → Bool
  | .non => true
  | .bl _ => true
  | .int i => decide (i.natAbs.log2 < 1920)
  | .str _ => true
  | .tup xs => okSL xs
  | .lst xs => okSL xs
  | .frz xs => okSL xs
  | _ => false
def okSL : List PV → Bool
  | [] => true
  | x :: xs => okS x && okSL xs
end
end L3
namespace L3
open PySem PySem.Spec PyProof.Rows L2
def keyP : PV → Option Key
  | .int i => some (.inl i)
  | .str x => some (.inr x)
  | _ => none
def lookK {κ : Type} [DecidableEq κ] (k : κ) : List κ → List PV → Option PV
  | j :: ks, x :: xs => if j = k then some x else lookK k ks xs
  | _, _ => none
@[simp] def fIxD : PV → PV → S → R S PV := fun p q s => match p with
  | .dk ks xs => (match keyP q with
    | some k => optR (lookK k ks xs) s
    | none => .bad)
  | _ => .bad
@[simp] def fGetD : PV → PV → PV → S → R S PV := fun p q z s => match p with
  | .dk ks xs => (match keyP q with
    | some k => .ok ((lookK k ks xs).getD z) s
    | none => .bad)
  | _ => .bad
@[simp] def dIxD (da db : DE) : DE := fun s => (da s).bind fun p s1 => (db s1).bind fun q s2 => fIxD p q s2
@[simp] def dGetD (da db dc : DE) : DE := fun s => (da s).bind fun p s1 => match p with
  | .dk ks xs => (db s1).bind fun q s2 => (dc s2).bind fun z s3 => fGetD (.dk ks xs) q z s3
  | _ => .bad
@[simp] def dDk0 : DE := fun s => .ok (.dk [] []) s
@[simp] def dDisp (ks : List Key) (d : DA) : DE := fun s => (d s).bind fun xs s1 => if ks.length = xs.length then .ok (.dk ks xs) s1 else .bad
section
variable {X : Cx} {g : Gx} {a b c e o : Expr} {es : List Expr} {da db dc de : DE} {dr : DA} {pos : Pos}
theorem Run.dk {K : PySem.W.Frag} {l : Lc} {s : S} {σ : St} {Q : VK} {ks : List Key} {xs : List PV} {vs : List V} (run : Run K g (.ok (.dk ks xs) s) l σ Q) (ok : Sok K g l s σ) (r : RepGL K g l xs vs) (hl : ks.length = vs.length) (p : Addr) (hp : l.H p = none) : Q (.ref p) (upd l.H p (.dK (ks.zip vs))) :=
  run ⟨l.al, l.M, upd l.H p (.dK (ks.zip vs))⟩ _ (Step.alloc hp) (ok.alloc hp) ⟨p, vs, rfl, ok.fresh hp, .inl upd_same, hl, (Step.alloc hp).reps r⟩
end
end L3
namespace L3
open PySem PySem.Spec PyProof.Rows L2
@[simp] def dMatch (d : DE) (m : Str → DS) : DS := fun s => (d s).bind fun v s1 => match v with
  | .str x => m x s1
  | _ => .bad
end L3
namespace L3
open PySem PySem.Spec PyProof.Rows L2
/-- where a parameter's value comes from: (0, i) the i-th by position, (1, i) the i-th default, (2, i) the i-th keyword -/
def src {α : Type} (us ds zs : List α) : Nat × Nat → Option α
  | (0, i) => us[i]?
  | (1, i) => ds[i]?
  | (_, i) => zs[i]?
def pick3 {α : Type} (is : List (Nat × Nat)) (us ds zs : List α) : List α := is.filterMap (src us ds zs)
theorem vals_get {vs : List V} {us : List Value} (h : Vals vs us) : ∀ i : Nat, (∃ v u, vs[i]? = some v ∧ us[i]? = some u ∧ RelV v u) ∨ (vs[i]? = none ∧ us[i]? = none) := fun i => by
  cases e : vs[i]? with
  | some v =>
    obtain ⟨u, h1, h2⟩ := h.get e
    exact .inl ⟨v, u, rfl, h1, h2⟩
  | none => exact .inr ⟨rfl, by rw [List.getElem?_eq_none_iff] at e ⊢; rw [← h.length]; exact e⟩
theorem pick3_vals {is : List (Nat × Nat)} {vs ds zs : List V} {us ts ws : List Value} (h1 : Vals vs us) (h2 : Vals ds ts) (h3 : Vals zs ws) : Vals (pick3 is vs ds zs) (pick3 is us ts ws) := by
  induction is with
  | nil => exact .nil
  | cons p is ih =>
    have one : (∃ v u, src vs ds zs p = some v ∧ src us ts ws p = some u ∧ RelV v u) ∨ (src vs ds zs p = none ∧ src us ts ws p = none) := by
      obtain ⟨k, i⟩ := p
      match k with
      | 0 => exact vals_get h1 i
      | 1 => exact vals_get h2 i
      | k + 2 => exact vals_get h3 i
    unfold pick3 at ih ⊢
    rcases one with ⟨v, u, e1, e2, r⟩ | ⟨e1, e2⟩
    · rw [List.filterMap_cons_some e1, List.filterMap_cons_some e2]
      exact .cons r ih
    · rw [List.filterMap_cons_none e1, List.filterMap_cons_none e2]
      exact ih
theorem pick3_rep {K : PySem.W.Frag} {CR : Addr} {al : List Addr} {L : Addr → Prop} {H : Hp} {is : List (Nat × Nat)} {us ds zs : List PV} {vs ts ws : List V} (h1 : RepL K CR al L H us vs) (h2 : RepL K CR al L H ds ts) (h3 : RepL K CR al L H zs ws) :
    RepL K CR al L H (pick3 is us ds zs) (pick3 is vs ts ws) := by
  have at_ : ∀ {xs : List PV} {ys : List V}, RepL K CR al L H xs ys → ∀ i : Nat, (∃ x y, xs[i]? = some x ∧ ys[i]? = some y ∧ Rep K CR al L H x y) ∨ (xs[i]? = none ∧ ys[i]? = none) := fun {xs ys} h i => by
    cases e : xs[i]? with
    | some v =>
      obtain ⟨u, h1, h2⟩ := h.get e
      exact .inl ⟨v, u, rfl, h1, h2⟩
    | none => exact .inr ⟨rfl, by rw [List.getElem?_eq_none_iff] at e ⊢; rw [← h.length]; exact e⟩
  induction is with
  | nil => rfl
  | cons p is ih =>
    have one : (∃ v u, src us ds zs p = some v ∧ src vs ts ws p = some u ∧ Rep K CR al L H v u) ∨ (src us ds zs p = none ∧ src vs ts ws p = none) := by
      obtain ⟨k, i⟩ := p
      match k with
      | 0 => exact at_ h1 i
      | 1 => exact at_ h2 i
      | k + 2 => exact at_ h3 i
    unfold pick3 at ih ⊢
    rcases one with ⟨v, u, e1, e2, r⟩ | ⟨e1, e2⟩
    · rw [List.filterMap_cons_some e1, List.filterMap_cons_some e2]
      exact ⟨u, _, rfl, r, ih⟩
    · rw [List.filterMap_cons_none e1, List.filterMap_cons_none e2]
      exact ih
section
variable {K : PySem.W.Frag} {x qual : Str} {params : Arguments} {body : List Stmt} {scope : Scope} {dvs : List V} {kws : List (Str × V)} {f : Addr} {fd : FuncData} {ps : List Str}
/-- no default is read -/
theorem FunD.kb3 (F : FunD K x qual params body scope [] kws f fd) (n : Nat) (ks : List Str) (is : List (Nat × Nat))
    (h : ∀ (kV doc pm : Value) (an : Option Addr) (cdv ct : Value) (us ws : List Value), us.length = n → ws.length = ks.length → bindArgs (PySem.W.fnOf x qual params body scope .none kV doc pm an cdv ct) ⟨us, ks.zip ws⟩ = pure (ps.zip (pick3 is us [] ws))) :
    KBn K fd ps n ks (fun us ws => pick3 is us [] ws) (fun vs zs => pick3 is vs [] zs) := by
  obtain ⟨c1, d1, v1, k1, doc1, pm1, an1, cd1, ct1, sl1, hfd, hlk, hcd, hD, hK⟩ := F.ex
  subst hfd
  rcases hD with ⟨_, hv⟩ | ⟨hv, _⟩
  · subst hv
    exact ⟨fun s us ws X l1 l2 => .of_eq (h k1 doc1 pm1 an1 cd1 ct1 us ws l1 l2), fun r1 r2 => pick3_vals r1 .nil r2⟩
  · exact absurd rfl hv
end
section
variable {X : Cx} {g : Gx} {a b c e : Expr} {es : List Expr} {da db dc de : DE} {dr dk : DA} {pos p : Pos} {x : Str} {f : Addr} {k n : Nat} {ps : List Str} {F : DF} {dps : List PV}
/-- f(k = v, ..) -/
theorem j_callK0 {kws : List Keyword} {ks : List Str} {gP : List PV → List PV → List PV} {m : Nat} (h : HasK X.prog X.w X.K X.mg X.base g.CR x k ps 0 ks gP F) (hr : Room k X.A) (tk : Takes X g.W) (hkw : JK X g kws dk) (hm0 : m = ks.length := by rfl) (hg : Gl X x := by rfl)
    (hall : (backToKw pos (keywordEach kws X.env)).all (·.1.isSome) = true := by rfl) (hks : (backToKw pos (keywordEach kws X.env)).filterMap (·.1) = ks := by rfl) (hdb : (x == ("__debug__" : Str)) = false := by decide)
    (hpl : ((backTo pos (starEach [] X.env)).any (·.1) || (backToKw pos (keywordEach kws X.env)).any (·.1.isNone)) = false := by rfl) :
    JE X g (.Call (.Name x p) [] kws pos) (dFnK F 0 m gP dNil dk) := by
  subst hm0
  obtain ⟨hn, f, fd, g', gV, hm, hk, hb, hfl, G⟩ := h
  refine ⟨fun pins s σ H Q I q => ?_⟩
  obtain ⟨l, st, rfl, ok, q⟩ := q
  have q : Run X.K g ((dk st).bind fun zs s2 => if ([] : List PV).length = 0 ∧ zs.length = ks.length then fnS F (gP [] zs) s2 else .bad) l σ Q := q
  refine wpAny_Call_Name_kw (ld_glob I hg hm ?_ hdb)
  refine PySem.W.callWith_KW0 (h₀ := X.base) I.ok.mod.kin hk hall ?_ hpl
  refine thn (hkw.run pos pins s σ _ _ I ⟨l, st, rfl, ok, RunA.bind q⟩) fun ws s2 ⟨zs, H2, I2, rz, l2, st2, qs, e2, ok2, r2, sp2, h2⟩ => ⟨I2.kIn, ?_⟩
  subst e2
  rw [hks]
  by_cases z : qs.length = ks.length
  · have h2 : Run X.K g (if ([] : List PV).length = 0 ∧ qs.length = ks.length then fnS F (gP [] qs) st2 else .bad) l2 σ Q := h2
    rw [if_pos ⟨rfl, z⟩] at h2
    have r0 := hb.rel (vs := []) (us := []) .nil rz
    have lz : ws.length = ks.length := rz.length.symm.trans (r2.length.symm.trans z)
    have asks := call_asks ok2 (hfl _ _ _ _ [] qs [] zs rfl z rfl r2) (hn _ _ rfl z) h2
    refine wpAny_call (codeAny_mono (G.run X.A X.stack s2 l2.H ⟨[], ks.zip ws⟩ (g' [] ws) (gV [] zs) Q _ hr I2.env0 (hb.to s2 [] ws I2.kIn rfl lz) r0 asks) fun r s' hq => ?_)
    match r, hq with
    | .error e, hq => exact passAt tk σ pins l2.H s2 e s' I2 hq
    | .ok (.ret u), hq => exact I2.after hq
    | .ok .next, hq => exact False.elim hq
    | .ok .brk, hq => exact False.elim hq
    | .ok .cont, hq => exact False.elim hq
  · have h2 : Run X.K g (if ([] : List PV).length = 0 ∧ qs.length = ks.length then fnS F (gP [] qs) st2 else .bad) l2 σ Q := h2
    rw [if_neg fun y => z y.2] at h2
    exact h2.elim
end
end L3
namespace L3
open PySem PySem.Spec PyProof.Rows L2
end L3
namespace L3
open PySem PySem.Spec PyProof.Rows L2
theorem EB.facts : ∀ b : EB, ExcBaseFacts b.B b.nw b.it b.bm
  | .ve => PySem.F.excBase_ValueError
  | .le => PySem.F.excBase_LookupError
  | .ae => PySem.F.excBase_ArithmeticError
theorem EB.store : ∀ b : EB, StoreFacts b.B b.bm "object.__setattr__" "object"
  | .ve => PySem.F.store_ValueError
  | .le => PySem.F.store_LookupError
  | .ae => PySem.F.store_ArithmeticError
/-- what the text says of an own exception class at C -/
structure OxB (K : PySem.W.Frag) (b : EB) (C : Addr) : Prop where
  ini : PySem.W.excInitIn K C b.bm b.nw = true
  ovr : PySem.W.excOver K C b.bm = true
  hd : PySem.W.hasDictIn K C = true
  sa : PySem.W.findIn K (.ref C) "__setattr__" = some (some (.builtin "object.__setattr__"))
  exC : PySem.W.subIn K (.ref C) (.type "BaseException") = some true
  tyC : PySem.W.typeIn K (.ref C) = some (.type "type")
  kC : PySem.W.keepIn K (.ref C) = true
section
variable {prog : Program} {w : World} {A : Around} {R : Result → Shared → Prop} {hp : Heap} {g : Array GenState} {d : Drawn} {t : Nat} {os : OsState}
/-- the first field of an exception that is being made -/
theorem osaB {K : PySem.W.Frag} {b : EB} {name : Str} {tk : Tok} {v : Value} {x C : Addr} {fv : Array Value} (T : OxB K b C) (X : K.In hp) (hx : hp.get? x = some { cls := .ref C, data := .fields fv }) (ha : PySem.W.takerIn K C name = some none)
    (hq : ∀ h' tk' dx, (∀ b o, b ≠ x → hp.get? b = some o → h'.get? b = some o) → hp.objs.size ≤ dx → dx ≠ x → h'.get? x = some { cls := .ref C, dict := some dx, data := .fields fv } →
      h'.Ns1 dx (fun y => if y = name then some v else none) → R (.ok (.ret .none)) ⟨h', g, d, tk', os⟩) :
    codeAny (model prog w) A (.call (.builtin "object.__setattr__") ⟨[.ref x, .str name tk, v], []⟩) R ⟨hp, g, d, t, os⟩ := by
  have I : PySem.W.InstAt hp x { cls := .ref C, data := .fields fv } C none := ⟨hx, rfl, rfl, trivial⟩
  refine PySem.W.osa_openX (s := ⟨hp, g, d, t, os⟩) b.store X I T.ovr ha fun bb => ?_
  dsimp only
  obtain ⟨cd, hcd, hdict⟩ := PySem.W.any_some T.hd
  have hcls : PySem.W.Looks (model prog w) hp (classData C) cd := PySem.W.looks_clsIn X hcd
  have hxs : x ≠ hp.objs.size := Nat.ne_of_lt (Heap.lt_size hx)
  obtain ⟨nm, bs, mro, ns, qn, hd, sn, sb, ab, col, del⟩ := cd
  have hh : hd = true := hdict
  subst hh
  unfold Builtin.ObjectAttr.storeInOwnDict Builtin.ObjectAttr.ownDictForStores
  repeat (first | with_reducible refine PySem.HandSPX.store_in_new ?_ ?_ | with_reducible refine wpAny_loadPart_at hx ?_ | with_reducible refine hcls.at ?_ | wp_step)
  · exact ⟨_, #[], _, (Heap.get?_update_ne _ _ _ _ hxs.symm).trans (Heap.get?_push_at rfl rfl), rfl, fun e he => absurd he (by simp), fun _ => rfl⟩
  · intro h' tk' hn' hs
    have old : ∀ {b : Addr} {o : Obj}, b ≠ x → hp.get? b = some o → h'.get? b = some o := fun {b o} hb ho =>
      (hs.2 b (Nat.ne_of_lt (Heap.lt_size ho))).trans ((Heap.get?_update_ne _ _ _ _ hb).trans (Heap.get?_push_of_some _ ho))
    refine hq h' tk' hp.objs.size (fun _ _ => old) (Nat.le_refl _) hxs.symm ?_ hn'
    have e : (hp.push { cls := .type "dict", data := .dict #[] }).get? x = some { cls := .ref C, data := .fields fv } := Heap.get?_push_of_some _ hx
    exact (hs.2 x hxs).trans (Heap.get?_update_self _ e rfl)
end
section
variable {X : Cx} {pins : List (Addr × Obj)} {σ : St} {H : Hp} {s : Shared} {a C : Addr} {f : Str} {y : V} {u : Value} {b : EB}
theorem ostB {Q : Unit → Shared → Prop} {E : Value → Shared → Prop} (T : OxB X.K b C) (I : Inv X pins σ H s) (e : H a = some (exo a C none)) (hno : PySem.W.takerIn X.K C f = some none) (ry : RelV y u)
    (h : ∀ dx s', H dx = none → dx ≠ a → Inv X pins σ (upd (upd H dx (exd dx [(f, y)])) a (exo a C (some dx))) s' → Q () s') : wpAny (model X.prog X.w) X.A (setAttr (.ref a) f u) Q E s := by
  obtain ⟨t1, ho⟩ := exo_at I.hok e
  obtain ⟨hp, g, d, t, os⟩ := s
  refine PySem.W.set_plain I.kIn (ox := { cls := .ref C, dict := none, data := .fields #[.ref t1, .none, .none, .none, .bool false, .none] }) (od := none) ⟨ho, rfl, rfl, trivial⟩ T.sa ?_
  refine osaB T I.kIn ho hno fun h' tk' dx k dn dne hx hn => ?_
  have hnd : H dx = none := I.hok.fresh dn
  have nd : ∀ {c : Addr} {o : Obj}, hp.get? c = some o → c ≠ dx := fun {c o} q => Nat.ne_of_lt (Nat.lt_of_lt_of_le (Heap.lt_size q) dn)
  have na : ∀ {c : Addr}, H c = none → c ≠ a := fun {c} n z => by rw [z, e] at n; cases n
  have both : ∀ {c : Addr} {o : HO}, H c = some o → exo a C none ≠ o → upd (upd H dx (exd dx [(f, y)])) a (exo a C (some dx)) c = H c := fun {c o} q n => by rw [upd_ne (at_ne e q n), upd_ne (ne_of_none q hnd)]
  refine h dx _ hnd dne (I.un (t' := tk') { keep := fun c o q n _ _ => k c o (na n) q, slot := fun c o q n _ _ => ⟨o.slots, k c o (na n) q⟩, free := fun c o q n _ => by rw [upd_ne (na n), upd_ne (nd q)]; exact n, there := fun c o q _ => ?_, tups := fun c xs q => by rw [both q exo_tup]; exact q, frzs := fun c o v q => by rw [both q exo_frz]; exact q, tbls := fun c ps q => ⟨#[], by rw [both q exo_tbl, q]; simp⟩ } fun c o q => ?_)
  · by_cases hc : c = a
    · rw [hc]; exact ⟨_, hx⟩
    · exact ⟨o, k c o hc q⟩
  · by_cases hc : c = a
    · subst hc
      rw [upd_same] at q
      cases q
      exact exo_ok hx
    · rw [upd_ne hc] at q
      by_cases hd : c = dx
      · subst hd
        rw [upd_same] at q
        cases q
        exact exd_ok hn (relO_put (fs := []) ry fun g => True.intro)
      · rw [upd_ne hd] at q
        refine (I.hok c o q).stay (fun c' v hc' z => k c' v ?_ z) (fun c' hc' => by rw [both hc' exo_own]; exact hc') fun c' xs hc' => by rw [both hc' exo_tup]; exact hc'
        rcases hc' with hc' | hc'
        · rw [hc']; exact hc
        · exact at_ne e hc' exo_own
/-- what such an __init__ keeps -/
def spI (C : Addr) (f : Str) : Sp := fun vs H Q _ => ∃ a v, vs = [.ref a, v] ∧ H a = some (exo a C none) ∧ ∀ dx, H dx = none → dx ≠ a → Q .non (upd (upd H dx (exd dx [(f, v)])) a (exo a C (some dx)))
def tOstB (C : Addr) (f : Str) (to te : TE) : TS := fun D σ H => te σ H fun y H1 => to σ H1 fun x H2 => ∃ a, x = .ref a ∧ H2 a = some (exo a C none) ∧ ∀ dx, H2 dx = none → dx ≠ a → D.nx σ (upd (upd H2 dx (exd dx [(f, y)])) a (exo a C (some dx)))
theorem ps_ostB {o e : Expr} {to te : TE} {p' pos : Pos} (T : OxB X.K b C) (hno : PySem.W.takerIn X.K C f = some none) (ho : PE X o to) (he : PE X e te) (hs : swapsWith e (some (.Attribute o f p')) pos.line X.env = pure false := by rfl) : PS X (.Assign [.Attribute o f p'] e pos) (tOstB C f to te) := by
  refine ⟨fun pins s σ H D I h => ?_⟩
  refine plainObj_wpAny_Assign_Attribute (thn (he.run pins s σ H _ I h) fun v s1 ⟨y, H1, I1, r1, q1⟩ => thn (ho.run pins s1 σ H1 _ I1 q1) fun u s2 ⟨x, H2, I2, r2, a, ex, ea, q⟩ => ?_) hs
  subst ex
  obtain rfl : u = Value.ref a := r2
  exact ostB T I2 ea hno r1 fun dx s' n ne J => ⟨σ, _, J, q dx n ne⟩
end
/-- the class's own __init__(self, f): self.f = f -/
theorem initB {P : Program} {w : World} {K : PySem.W.Frag} {mg : Str → Option Value} {base : Heap} {C fI : Addr} {b : EB} {x qual f : Str} {params : Arguments} {body : List Stmt} {scope : Scope} {dvs : List V} {kws : List (Str × V)} {fd : FuncData} {q1 q2 q3 q4 : Pos} (T : OxB K b C)
    (hno : PySem.W.takerIn K C f = some none) (F : FunD K x qual params body scope dvs kws fI fd) (S : FnScope ["self", f] ["self", f] scope) (hb : body = [.Assign [.Attribute (.Name "self" q1) f q2] (.Name f q3) q4]) (h1 : (f == ("__debug__" : Str)) = false) (h2 : (f == ("__classdict__" : Str)) = false) :
    FnG P w K mg base (L2.CX P w) 1 fI fd ["self", f] (spI C f) := by
  refine fnG_of F S (fun vs H Q E h => ?_) fun cdv A outer s H vs Q E hr h => ?_
  · obtain ⟨a, v, rfl, _⟩ := h
    rfl
  · obtain ⟨a, v, rfl, ea, q⟩ := h
    subst hb
    have vis : ∀ y : Str, y ∈ [("self" : Str), f] → Vis scope y := fun y hy => (S.par y hy).elim (fun z => .inl z) fun z => .inr (.inl z)
    refine ⟨_, pss_one (ps_ostB (X := cxOf (L2.CX P w) P w K mg base ["self", f] qual scope fI cdv A outer s H E) (C := C) (f := f) T hno (pe_var (i := 0) rfl (vis "self" (by simp))) (pe_var (i := 1) rfl (vis f (by simp)) h1 h2)), ?_⟩
    exact ⟨v, rfl, .ref a, rfl, a, rfl, ea, q⟩
/-- C(e), C with such an __init__ -/
theorem pmkB {X : Cx} {b : EB} {C fI : Addr} {k : Nat} {fd : FuncData} {f x : Str} {e : Expr} {ta : TA} {p pos : Pos} (T : OxB X.K b C) (iC : PySem.W.findIn X.K (.ref C) "__init__" = some (some (.ref fI))) (tI : PySem.W.isFn X.K (.ref fI) = true)
    (F1 : FnG X.prog X.w X.K X.mg X.base (L2.CX X.prog X.w) k fI fd ["self", f] (spI C f)) (hr : Room (k + 1) X.A) (hb : Binds X.K fd ["self", f] []) (hm : X.mg x = some (.ref C)) (ha : PA X [e] ta) (hg : Gl X x := by rfl)
    (hdb : (x == ("__debug__" : Str)) = false := by decide) (he : starEach [e] X.env = (false, eval e X.env) :: starEach [] X.env := by rfl) (hpl : (backTo pos (starEach [] X.env)).any (·.1) = false := by rfl) :
    PMk X (.Call (.Name x p) [e] [] pos) (fun σ H Q => ta σ H fun vs H1 => ∃ v, vs = [v] ∧ ∀ d, H1 d = none → Q (.ref C) (some d) (upd H1 d (.xd [(f, v)]))) := by
  intro pins s σ H Q I h
  refine wpAny_Call_Name_kw (ld_glob I hg hm ?_ hdb)
  refine PySem.W.callWith_K (h₀ := X.base) I.ok.mod.kin T.kC (thn (ha.run pos pins s σ H _ I h) fun us s1 ⟨vs, H1, I1, r1, v, ev, q1⟩ => ⟨I1.kIn, ?_⟩) he hpl
  subst ev
  obtain ⟨nm, N', qn, bs, bm, hdct, sn, sub, ab, col, dd, k0, k1, k2, k3, k5, hC, hT⟩ := PySem.W.excInit_of I1.kIn T.ini
  obtain ⟨oI, hoI, hcI⟩ : ∃ oI, s1.heap.get? fI = some oI ∧ oI.cls = .type "function" := by
    obtain ⟨o, ho, hc⟩ := Option.map_eq_some_iff.mp (show (X.K.lookup fI).map (·.cls) = some (.type "function") from beq_iff_eq.mp tI)
    exact ⟨o, I1.kIn _ _ ho, hc⟩
  show wpAny _ _ (call (.ref C) us) _ _ _
  obtain ⟨hp, g, dr, tk, os⟩ := s1
  let a := hp.objs.size + 1
  let h2 := (hp.push (PySem.W.kdv_tup us)).push (PySem.HandSPX.excO C hp.objs.size)
  have hsz : hp.objs.size ≤ a := Nat.le_succ _
  have kk : ∀ b o, hp.get? b = some o → h2.get? b = some o := fun b o e => Heap.get?_push_of_some _ (Heap.get?_push_of_some _ e)
  have hget : h2.get? a = some (PySem.HandSPX.excO C hp.objs.size) := by
    show ((hp.push (PySem.W.kdv_tup us)).push (PySem.HandSPX.excO C hp.objs.size)).get? (hp.objs.size + 1) = _
    heap_get
  have I2 : Inv X pins σ (upd H1 a (exo a C none)) ⟨h2, g, dr, tk, os⟩ := I1.laid (t' := tk) (a := a) (o := exo a C none) (h' := h2) kk hsz (exo_ok hget)
  have r2 : Vals (V.ref a :: [v]) (Value.ref a :: us) := .cons rfl r1
  have hl : (Value.ref a :: us ++ []).length = 2 := by
    rw [List.append_nil]
    exact r2.length.symm
  have hus : us.length ≤ sizeLine := by
    rw [← Paired.length r1, sizeLine_eq]
    exact (by decide : 1 ≤ 16777216)
  have hn : H1 a = none := I1.hok.fresh hsz
  have b2 := hb ⟨h2, g, dr, tk, os⟩ (Value.ref a :: us) I2.kIn hl
  rw [List.append_nil] at b2
  have asks : spI C f [.ref a, v] (upd H1 a (exo a C none)) (fun w H2 => w = .non ∧ ∃ d, H2 a = some (exo a C (some d)) ∧ H2 d = some (exd d [(f, v)]) ∧ H1 d = none ∧ Q (.ref C) (some d) (upd (del H2 a) d (.xd [(f, v)]))) (fun _ _ _ => False) := by
    refine ⟨a, v, rfl, upd_same, fun dx hdx ne => ⟨rfl, dx, upd_same, by rw [upd_ne ne, upd_same], ?_, ?_⟩⟩
    · rw [upd_ne ne] at hdx; exact hdx
    · have hd1 : H1 dx = none := by rw [upd_ne ne] at hdx; exact hdx
      have z := q1 dx hd1
      have e : upd (del (upd (upd (upd H1 a (exo a C none)) dx (exd dx [(f, v)])) a (exo a C (some dx))) a) dx (.xd [(f, v)]) = upd H1 dx (.xd [(f, v)]) := by
        funext c
        by_cases h1 : c = dx
        · rw [h1, upd_same, upd_same]
        · rw [upd_ne h1, upd_ne h1]
          by_cases h2 : c = a
          · rw [h2, del_same, hn]
          · rw [del_ne h2, upd_ne h2, upd_ne h1, upd_ne h2]
      rw [e]
      exact z
  refine wpAny_call (PySem.HandSPX.call_own b.facts hT hC (PySem.W.looks_findIn I1.kIn iC) (fun self => PySem.W.exc_bind hoI hcI self) hus
    (codeAny_mono (F1.run _ X.stack _ _ ⟨Value.ref a :: us, []⟩ (Value.ref a :: us) _ _ (fun _ _ _ => False) (hr.make C us []) (I2.env0.make C us []) b2 r2 asks) fun r s' z => ?_))
  match r, z with
  | .error er, ⟨_, _, _, _, _, _, _, _, _, _, _, _, z⟩ => exact z.elim
  | .ok .next, z => exact False.elim z
  | .ok .brk, z => exact False.elim z
  | .ok .cont, z => exact False.elim z
  | .ok (.ret u), ⟨w', H2, os2, bare2, un2, hok2, rv, ev, d, ea, ed, hd1, q2⟩ =>
    subst ev
    obtain ⟨h3, g2, d2, t2, os'⟩ := s'
    exact ⟨rv, mk_end (raises_own T.exC T.tyC) I1 hsz kk un2 hok2 os2 bare2 ea ed hd1 q2⟩
/-- raise c(e) -/
@[simp] def dRaise (c f : Str) (d : DE) : DS := fun s => (d s).bind fun v s1 => .exn (.exc c [f] [v]) s1
/-- raise c('..') -/
@[simp] def dRaise0 (c : Str) : DS := fun s => .exn (.exc c [] []) s
/-- an own exception class with an __init__ of one field -/
def HasE (P : Program) (w : World) (K : PySem.W.Frag) (mg : Str → Option Value) (base : Heap) (c f : Str) (b : EB) : Prop :=
  mg c = some (.ref (He.ga K c)) ∧ OxB K b (He.ga K c) ∧ ∃ fI fd, PySem.W.findIn K (.ref (He.ga K c)) "__init__" = some (some (.ref fI)) ∧ PySem.W.isFn K (.ref fI) = true ∧ Binds K fd ["self", f] [] ∧ FnG P w K mg base (L2.CX P w) 1 fI fd ["self", f] (spI (He.ga K c) f)
/-- .. without -/
def HasE0 (K : PySem.W.Frag) (mg : Str → Option Value) (c : Str) (b : EB) : Prop :=
  mg c = some (.ref (He.ga K c)) ∧ PySem.W.excIn K (He.ga K c) b.bm b.nw = true ∧ PySem.W.keepIn K (.ref (He.ga K c)) = true ∧ PySem.W.subIn K (.ref (He.ga K c)) (.type "BaseException") = some true ∧ PySem.W.typeIn K (.ref (He.ga K c)) = some (.type "type")
section
variable {X : Cx} {g : Gx} {e : Expr} {de : DE} {c f m : Str} {b : EB} {p p2 pos pos2 : Pos}
theorem js_raise {k : Nat} (hc : X.calm = true) (h : HasE X.prog X.w X.K X.mg X.base c f b) (hr : Room (k + 2) X.A) (tk : Takes X g.W) (he : JE X g e de) (hg : Gl X c := by rfl) (hdb : (c == ("__debug__" : Str)) = false := by decide)
    (hs : starEach [e] X.env = (false, eval e X.env) :: starEach [] X.env := by rfl) (hpl : (backTo pos (starEach [] X.env)).any (·.1) = false := by rfl) : JS X g (.Raise (some (.Call (.Name c p) [e] [] pos)) none pos2) (dRaise c f de) := by
  obtain ⟨hm, T, fI, fd, iC, tI, hb, F1⟩ := h
  refine PS.cq (ps_raise hc tk (pmkB T iC tI F1 (hr.mono (by omega)) hb hm (pa_cons he pa_nil hs) hg hdb hs hpl)) fun pins s D σ H I q => ?_
  obtain ⟨l, s, rfl, ok, q⟩ := q
  refine ⟨l, s, rfl, ok, Run.mono (Run.bindS q) fun u H1 ⟨l1, s1, v, e1, ok1, r1, st1, h1⟩ => ⟨u, rfl, fun d hd => ?_⟩⟩
  subst e1
  exact h1 ⟨l1.al, l1.M, upd l1.H d (.xd [(f, u)])⟩ σ _ _ (Step.alloc hd) (ok1.alloc hd) ⟨c, [f], [v], [u], rfl, rfl, rfl, ⟨u, [], rfl, (Step.alloc hd).rep r1, rfl⟩, .inr ⟨d, rfl, ok1.fresh hd, upd_same⟩⟩
theorem js_raise0 {j : Nat} (hc : X.calm = true) (h : HasE0 X.K X.mg c b) (tk : Takes X g.W) (hg : Gl X c := by rfl) (hdb : (c == ("__debug__" : Str)) = false := by decide) :
    JS X g (.Raise (some (.Call (.Name c p) [.Constant (.str m) j p2] [] pos)) none pos2) (dRaise0 c) := by
  obtain ⟨hm, hx, kp, h1, h2⟩ := h
  refine PS.cq (ps_raise hc tk (pmk_own b.facts hx hm kp (raises_own h1 h2) hg hdb)) fun pins s D σ H I q => ?_
  obtain ⟨l, s, rfl, ok, q⟩ := q
  exact q l σ _ _ (Step.refl l) ok ⟨c, [], [], [], rfl, rfl, rfl, rfl, .inl ⟨rfl, rfl⟩⟩
end
end L3
namespace L3
open PySem PySem.Spec PyProof.Rows L2
theorem exm_tupN {M : Model} {K : PySem.W.Frag} {cs : List Value} {cls : Value} {tp e : Addr} {b : Bool} {h : Heap} (X : K.In h) (LT : PySem.W.Looks M h (typeOf (.ref e)) cls) (hp : h.get? tp = some { cls := .type "tuple", data := .seq cs.toArray })
    (hx : PySem.W.exmAny K cls cs = some b) : PySem.W.Looks M h (excMatches (.ref e) (.ref tp)) b := by
  intro A Q E s k q
  have LT0 : PySem.W.Looks M h (isInstance (.ref tp) (.type "tuple")) true := ((PySem.W.Looks.ld hp).andThen .now).andThen (PySem.W.Looks.of_pure isSubtype_tuple_tuple)
  have hp' := k _ _ hp
  unfold excMatches
  refine wpAny_bind ((LT0.keeps k).here ?_)
  dsimp only
  rw [if_pos rfl]
  refine wpAny_bind (wpAny_seqItems hp' rfl (wpAny_bind (wpAny_pure ?_)))
  show wpAny _ _ (do
    forIn cs.toArray.toList PUnit.unit _
    _) _ _ _
  rw [show cs.toArray.toList = cs from by simp]
  refine wpAny_bind (wpAny_forIn_list _ (fun rest _ s' => s' = s ∧ ∃ b', PySem.W.exmAny K cls rest = some b') _ ?turn ?fin _ _ ⟨rfl, b, hx⟩)
  case turn =>
    rintro c rest u s' ⟨rfl, b', hb⟩
    obtain ⟨b1, d1, x1, y1, z1⟩ := PySem.W.exmAny_cons hb
    obtain ⟨g1, _⟩ := PySem.W.exm_cls (M := M) X x1
    refine wpAny_bind ((g1.keeps k).here ?_)
    simp only [Bool.not_true, Bool.false_eq_true, if_false]
    exact wpAny_pure ⟨rfl, d1, y1⟩
  case fin =>
    rintro u s' ⟨rfl, _⟩
    refine wpAny_bind ((LT.keeps k).here ?_)
    rw [show ((some cs.toArray : Option (Array Value)).getD #[]).toList = cs from by simp]
    refine wpAny_bind (wpAny_forIn_list _ (fun rest (r : Option Bool × Unit) s2 => s2 = s' ∧ (r.1 = none ∧ PySem.W.exmAny K cls rest = some b)) _ ?turn2 ?fin2 _ _ ⟨rfl, rfl, hx⟩)
    case turn2 =>
      rintro c rest ⟨r1, r2⟩ s2 ⟨rfl, hr, hb⟩
      obtain ⟨b1, d1, x1, y1, z1⟩ := PySem.W.exmAny_cons hb
      obtain ⟨_, g2⟩ := PySem.W.exm_cls (M := M) X x1
      refine wpAny_bind ((g2.keeps k).here ?_)
      cases b1 with
      | true =>
        simp only [if_true]
        have : b = true := by rw [z1]; rfl
        subst this
        exact wpAny_pure (wpAny_pure q)
      | false =>
        simp only [Bool.false_eq_true, if_false]
        have : b = d1 := by rw [z1]; rfl
        exact wpAny_pure ⟨rfl, rfl, by rw [this]; exact y1⟩
    case fin2 =>
      rintro ⟨r1, r2⟩ s2 ⟨rfl, hr, hb⟩
      have hb : b = false := (Option.some.inj hb).symm
      have hr : r1 = none := hr
      subst hr
      rw [hb] at q
      exact wpAny_pure q
/-- what an except clause tests -/
def Clz (X : Cx) (t : Expr) (cs : List Value) : Prop :=
  ∀ (a : Addr) (pn pins : List (Addr × Obj)) (σ : St) (H : Hp) (s : Shared) (E1 E2 : Value → Shared → Prop) (Q : Bool → Shared → Prop) (cls : Value) (b : Bool), Inv (X.suite a pn) pins σ H s → PySem.W.Looks (model X.prog X.w) s.heap (typeOf (.ref a)) cls → PySem.W.exmAny X.K cls cs = some b →
    (∀ h', (∀ b o, s.heap.get? b = some o → h'.get? b = some o) → Q b { s with heap := h' }) → wpAny (model X.prog X.w) (X.suite a pn).A (eval t X.env) (fun c s1 => wpAny (model X.prog X.w) (X.suite a pn).A (excMatches (.ref a) c) Q E1 s1) E2 s
def NmL (X : Cx) : List Expr → List Value → Prop
  | [], [] => True
  | e :: es, c :: cs => (∃ x p, e = .Name x p ∧ Gl X x ∧ (x == ("__debug__" : Str)) = false ∧ X.mg x = some c) ∧ NmL X es cs
  | _, _ => False
section
variable {X : Cx}
theorem spl_names {a : Addr} {pn pins : List (Addr × Obj)} {σ : St} {H : Hp} {s : Shared} {E : Value → Shared → Prop} (I : Inv (X.suite a pn) pins σ H s) {pos : Pos} : ∀ {es : List Expr} {cs : List Value} {Q : List Value → Shared → Prop}, NmL X es cs → Q cs s →
    wpAny (model X.prog X.w) (X.suite a pn).A (spliced (backTo pos (starEach es X.env))) Q E s
  | [], [], Q, _, q => Calls.spliced_nil q
  | [], c :: cs, Q, h, q => h.elim
  | e :: es, [], Q, h, q => h.elim
  | e :: es, c :: cs, Q, h, q => by
    obtain ⟨⟨x, p, rfl, hg, hdb, hm⟩, h2⟩ := h
    show wpAny _ _ (spliced ((false, eval (.Name x p) X.env) :: backTo pos (starEach es X.env))) _ _ s
    exact Calls.spliced_cons (ld_glob (X := X.suite a pn) I hg hm (spl_names I (Q := fun us s2 => Q (c :: us) s2) h2 q) hdb)
theorem clz_tup {es : List Expr} {cs : List Value} {x1} {p : Pos} (h : NmL X es cs) (hn : cs.length ≤ 64 := by decide) : Clz X (.Tuple es x1 p) cs := by
  intro a pn pins σ H s E1 E2 Q cls b I LT hx q
  refine wpAny_Tuple_spliced (spl_names I h ⟨by rw [sizeLine_eq]; omega, ?_⟩)
  have k : ∀ b o, s.heap.get? b = some o → (s.heap.push ({ cls := .type "tuple", data := .seq cs.toArray } : Obj)).get? b = some o := fun b o e => Heap.get?_push_of_some _ e
  exact (exm_tupN (M := model X.prog X.w) (fun b o e => k b o (I.kIn b o e)) (LT.keeps k) (Heap.get?_push_size _ rfl) hx).here (q _ k)
end
theorem FlyingZ.on {B h h' : Heap} {l : List Env} {a : Addr} {Z : Obj → Prop} (x : HandSPX.FlyingZ B l a Z h) (k : ∀ b o, h.get? b = some o → h'.get? b = some o) : HandSPX.FlyingZ B l a Z h' := by
  obtain ⟨x1, x2, x3, oe, vs, T, oT, ts, he, hz, hd, h1, hnT, hTe, hT, hdT, h3⟩ := x
  exact ⟨fun b o e => k b o (x1 b o e), x2, Heap.FunFrames.of_keeps (fun b o e _ => ⟨o, k b o e, rfl⟩) x3, oe, vs, T, oT, ts, k _ _ he, hz, hd, h1, hnT, hTe, k _ _ hT, hdT, h3⟩
@[simp] def unE (i : Nat) (s : S) : S := wipeS [i] s
/-- try: db / except .. as n: ds, n's slot i; yes: the classes that the clause takes -/
@[simp] def dTryAs (yes : List Str) (i : Nat) (ds db : DS) : DS := fun s => match db s with
  | .exn (.exc c ns xs) s1 => if c ∈ yes then (ds (setE i (.exc c ns xs) s1)).bind fun f s2 => .ok f (unE i s2) else .bad
  | .exn _ _ => .bad
  | r => r
section
variable {X : Cx} {pins : List (Addr × Obj)} {σ : St} {H : Hp} {sI s s' : Shared} {B : Heap}
/-- back on the ground, the exception a value like others -/
theorem Inv.landedT {a : Addr} {o : HO} (I : Inv X pins σ H sI) (nb : ∀ b o, sI.heap.get? b = some o → b ∉ frs X.stack → B.get? b = some o) (st : B.StaysIn s'.heap) (up : sI.heap.UpToSlots s'.heap) (os : s'.os = sI.os) (ag : AllBare s'.gens)
    (hB : B.get? a = none) (nf : a ∉ frs X.stack) (na : H a = none) (new : ObjOk X.prog X.w (upd H a o) s'.heap a o) : Inv X pins σ (upd H a o) s' := by
  have nfs : ∀ b ∈ frs X.stack, ∀ o, sI.heap.get? b = some o → ∃ sl, s'.heap.get? b = some { o with slots := sl } := fun b hb o e => by
    obtain ⟨_, o', e', hd⟩ := I.stack.mem hb
    rw [e] at e'; cases e'
    exact up b o e hd
  have n0 : ∀ b o, sI.heap.get? b = some o → b ≠ a := fun b o e z => by
    subst z
    have q := nb _ o e nf
    rw [hB] at q; cases q
  refine I.call' (ch := []) os ⟨fun b o e _ hb _ => st b o (nb b o e hb), fun b o e _ hb _ => nfs b hb o e, fun b o e n _ => by rw [upd_ne (n0 b o e)]; exact n, fun b o e _ => by
      by_cases hb : b ∈ frs X.stack
      · obtain ⟨sl, q⟩ := nfs b hb o e
        exact ⟨_, q⟩
      · exact ⟨o, st b o (nb b o e hb)⟩, fun b xs e => by rw [upd_ne (ne_of_none e na)]; exact e, fun b o xs e => by rw [upd_ne (ne_of_none e na)]; exact e, fun b ps e => ⟨#[], by rw [upd_ne (ne_of_none e na), e]; simp⟩⟩ (fun b u e => ?_) ag (fun _ z => nomatch z)
  by_cases hb : b = a
  · subst hb
    rw [upd_same] at e
    cases e
    exact new
  · rw [upd_ne hb] at e
    exact (((I.inGround nb).kept st) b u e).stay (fun c v _ q => q) (fun c q => by rw [upd_ne (ne_of_none q na)]; exact q) fun c xs q => by rw [upd_ne (ne_of_none q na)]; exact q
theorem Inv.suite0 (I : Inv X pins σ H s) (a : Addr) : Inv (X.suite a (X.pn ++ pins)) [] σ H s :=
  ⟨I.ok.suite _ _, I.os, I.bare, I.base, I.loc, I.cell, I.free, I.freeC, fun p hp => I.pin p (by rw [List.append_nil] at hp; exact hp), I.hok, I.len⟩
theorem Inv.unsuite0 {a : Addr} {pn' : List (Addr × Obj)} (I : Inv (X.suite a (X.pn ++ pins)) pn' σ H s) (ok : X.Ok) : Inv X pins σ H s :=
  ⟨ok, I.os, I.bare, I.base, I.loc, I.cell, I.free, I.freeC, fun p hp => I.pin p (List.mem_append_left _ hp), I.hok, I.len⟩
theorem runS_un {K : PySem.W.Frag} {g : Gx} {r : R S Fl} {l : Lc} {D : Ends} {σ σ' : St} {i : Nat} (h : RunS K g (r.bind fun f s2 => .ok f (unE i s2)) l D σ) :
    RunS K g r l { nx := fun σ' H' => D.nx (σ'.set i none) H', rt := D.rt, bk := fun σ' H' => D.bk (σ'.set i none) H', ct := fun σ' H' => D.ct (σ'.set i none) H' } σ' := by
  have w : ∀ {l' : Lc} {s2 : S} {τ : St}, Sok K g l' s2 τ → Sok K g l' (unE i s2) (τ.set i none) := fun ok => Sok.wipe ok (by simp [L2.wipe])
  cases r with
  | bad => exact h
  | exn e t => exact h
  | ok f t =>
    cases f with
    | nx => exact fun l' τ st ok => h l' _ st (w ok)
    | bk => exact fun l' τ st ok => h l' _ st (w ok)
    | ct => exact fun l' τ st ok => h l' _ st (w ok)
    | rt v => exact fun l' τ u st ok r => h l' _ u st (w ok) r
end
section
variable {X : Cx} {g : Gx} {n : Str} {cs : List Value} {yes : List Str} {i : Nat} {body suite : List Stmt} {b₀ : Stmt} {t : Expr} {pos pos' : Pos} {db ds : DS}
/-- what the clause asks of an exception of the body -/
def wTryAs (K : PySem.W.Frag) (g : Gx) (yes : List Str) (i : Nat) (ds : DS) (D : Ends) : WX := fun cls d σ H => ∃ l s c ns xs vs, l.H = H ∧ Sok K g l s σ ∧ cls = .ref (He.ga K c) ∧ ns.length = vs.length ∧ RepGL K g l xs vs ∧
  ((d = none ∧ ns = []) ∨ ∃ dd, d = some dd ∧ ¬ g.L l dd ∧ l.H dd = some (.xd (ns.zip vs))) ∧ c ∈ yes ∧ RunS K g ((ds (setE i (.exc c ns xs) s)).bind fun f s2 => .ok f (unE i s2)) l D σ
theorem try_body {K : PySem.W.Frag} {l : Lc} {s : S} {D : Ends} {σ : St} (h : RunS K g (dTryAs yes i ds db s) l D σ) : RunS K ⟨g.CR, g.N, wTryAs K g yes i ds D⟩ (db s) l D σ := by
  simp only [dTryAs] at h
  cases e : db s with
  | bad => rw [e] at h; exact h
  | ok f t =>
    rw [e] at h
    cases f with
    | nx => exact fun l' τ st ok => h l' τ st (ok.frame rfl rfl)
    | bk => exact fun l' τ st ok => h l' τ st (ok.frame rfl rfl)
    | ct => exact fun l' τ st ok => h l' τ st (ok.frame rfl rfl)
    | rt v => exact fun l' τ u st ok r => h l' τ u st (ok.frame rfl rfl) r
  | exn x t =>
    rw [e] at h
    intro l' τ cls dd st ok rx
    obtain ⟨c, ns, xs, vs, rfl, h1, h2, h3, h4⟩ := rx
    by_cases hc : c ∈ yes
    · simp only [if_pos hc] at h
      exact ⟨l', t, c, ns, xs, vs, rfl, ok.frame rfl rfl, h1, h2, h3, h4, hc, RunS.step (by
        cases e2 : (ds (setE i (.exc c ns xs) t)).bind fun f s2 => R.ok f (unE i s2) with
        | bad => rw [e2] at h; exact h
        | exn x t => rw [e2] at h; exact h
        | ok f t =>
          rw [e2] at h
          cases f <;> exact h) st⟩
    · simp only [if_neg hc] at h
      exact h.elim
theorem js_tryAs (hN : X.N.Nodup) (hc : Clz X t cs) (hy : ∀ c ∈ yes, PySem.W.exmAny X.K (.ref (He.ga X.K c)) cs = some true)
    (hb : ∀ (W : WX) (pn : List (Addr × Obj)) (xe : Value → Shared → Prop), Takes (X.tr pn xe) W → JSs (X.tr pn xe) ⟨g.CR, g.N, W⟩ body db)
    (hsu : ∀ (a : Addr) (pn : List (Addr × Obj)), JSs (X.suite a pn) g (b₀ :: suite) ds)
    (hi : X.N[i]? = some n := by rfl) (hln : X.env.kindOf n = some .local := by rfl) (hs : X.stack = X.env :: X.outer := by rfl) (hf : X.env.frame = some X.env.locals := by rfl) :
    JS X g (.Try body [.ExceptHandler (some t) (some n) (b₀ :: suite) pos'] [] [] pos) (dTryAs yes i ds db) := by
  refine ⟨fun pins s σ H D I h => ?_⟩
  obtain ⟨l0, st0, rfl, ok0, run0⟩ := h
  have ok := I.ok
  have hfr : X.A.frames = some (X.env :: X.outer) := by rw [ok.frames, hs]
  have hloc : Loc X.env.scope n := .inl hln
  refine wpAny_Try_except ?_
  refine wpAny_mono ((hb (wTryAs X.K g yes i ds D) (X.pn ++ pins) (fun e s₁ => wpAny (model X.prog X.w) X.A (noteFrame e X.env) (fun _ s₂ => wpAny (model X.prog X.w) X.A (setFlight e none) (fun _ s₃ =>
    wpAny (model X.prog X.w) X.A (handleBy e X.env [.ExceptHandler (some t) (some n) (b₀ :: suite) pos']) (SP X pins D) X.xe s₃) X.xe s₂) X.xe s₁) (fun u s' xx => ?_)).run [] s σ l0.H D (I.toTry _) ⟨l0, st0, rfl, ok0.frame rfl rfl, try_body run0⟩) (fun f s1 hsp => ?_) (fun e s1 he => he)
  · obtain ⟨a, B, sI, pins', σ', H', cls, d, rfl, J', nb, up, sky, na, os, ag, l1, s1, c, ns, xs, vs, rfl, ok1, rfl, hl, rxs, hd0, hcy, run1⟩ := xx
    have J : Inv X pins σ' l1.H sI := J'.ofTry ok
    have sky' : Sky B (X.env :: X.outer) a (Zc (.ref (He.ga X.K c)) d) X.env.locals s'.heap := by rw [← hs]; exact sky
    show wpAny (model X.prog X.w) X.A (noteFrame (.ref a) X.env) _ _ _
    refine Sky.land Zc.steady hfr hf sky' fun h3 fl3 up3 => ?_
    have J3 : Inv X pins σ' l1.H { s' with heap := h3 } := J.landed nb fl3.1 (up.trans up3) os ag
    obtain ⟨oe3, vs3, he3, hz3, hd3⟩ := fl3.there
    have nfr : a ∉ frs (X.env :: X.outer) := fun hm => by
      obtain ⟨_, o', e', hnf⟩ := fl3.2.2.1.mem hm
      rw [he3] at e'; cases e'
      exact hnf _ hd3
    have nfr' : a ∉ frs X.stack := by rw [hs]; exact nfr
    have LT : PySem.W.Looks (model X.prog X.w) h3 (typeOf (.ref a)) (.ref (He.ga X.K c)) := fun A Q E s k q => wpAny_typeOf_ref (k _ _ he3) (by rw [hz3.1]; exact q)
    refine wpAny_handleBy_cons (codeAny_handlers_test (hc a (X.pn ++ pins) [] σ' l1.H _ _ _ _ _ true (Inv.suite0 J3 a) LT (hy c hcy) fun h5 k5 => ?_)) (by intro q; cases q)
    refine codeAny_handlers_suite_as ?_
    have fl5 : HandSPX.FlyingZ B (X.env :: X.outer) a (Zc (.ref (He.ga X.K c)) d) h5 := FlyingZ.on fl3 k5
    refine HandSPX.lands_againZ fl5 fun h4 fl4 up4 => ?_
    obtain ⟨oe4, vs4, he4, hz4, hd4⟩ := fl4.there
    have new : ObjOk X.prog X.w (upd l1.H a (exv a (He.ga X.K c) d)) h4 a (exv a (He.ga X.K c) d) :=
      ⟨⟨oe4, vs4, he4, hz4.1, hz4.2, hd4⟩, ⟨_, he4⟩, fun h1 h2 z k => by
        obtain ⟨oe, vs, z1, z2⟩ := z
        exact ⟨oe, vs, k _ z1, z2⟩⟩
    have J4 : Inv X pins σ' (upd l1.H a (exv a (He.ga X.K c) d)) { s' with heap := h4 } := Inv.landedT J nb fl4.1 (((up.trans up3).trans (Heap.UpToSlots.of_keeps k5)).trans up4) os ag fl4.2.1 nfr' na new
    have st1 : Step l1 ⟨l1.al, l1.M, upd l1.H a (exv a (He.ga X.K c) d)⟩ := Step.alloc na
    have ok2 := ok1.alloc (o := exv a (He.ga X.K c) d) na
    have rep : RepG X.K g ⟨l1.al, l1.M, upd l1.H a (exv a (He.ga X.K c) d)⟩ (.exc c ns xs) (.ref a) := by
      refine ⟨a, d, vs, rfl, ok1.fresh na, upd_same, hl, ?_, st1.reps rxs⟩
      rcases hd0 with h | ⟨dd, h1, h2, h3⟩
      · exact .inl h
      · exact .inr ⟨dd, h1, h2, by show upd l1.H a _ dd = _; rw [upd_ne (ne_of_none h3 na)]; exact h3⟩
    refine store_ok (X := X.suite a (X.pn ++ pins)) (v := .ref a) (Inv.suite0 J4 a) hN hi hloc rfl (fun s5 S5 => ?_) (.inr hln)
    refine wpAny_mono ((hsu a (X.pn ++ pins)).run [] s5 _ _ _ S5 ⟨_, _, rfl, ok2.set rep, runS_un (RunS.step run1 st1)⟩) (fun f s6 hsp => ?_) (fun _ _ z => False.elim z)
    have end_ : ∀ {σ6 : St} {H6 : Hp} {Q : Shared → Prop}, Inv (X.suite a (X.pn ++ pins)) [] σ6 H6 s6 → (∀ s7, Inv X pins (σ6.set i none) H6 s7 → Q s7) →
        wpAny (model X.prog X.w) X.A (do bindName X.env n .none; unbindBehindTheSuite X.env n pos') (fun _ s7 => Q s7) X.xe s6 := fun {σ6 H6 Q} S6 hq => gone_ok (Inv.unsuite0 S6 ok) hN hi hln hq
    cases f with
    | next =>
      obtain ⟨σ6, H6, S6, q6⟩ := hsp
      exact end_ S6 fun s7 J7 => ⟨_, _, J7, q6⟩
    | brk =>
      obtain ⟨σ6, H6, S6, q6⟩ := hsp
      exact end_ S6 fun s7 J7 => ⟨_, _, J7, q6⟩
    | cont =>
      obtain ⟨σ6, H6, S6, q6⟩ := hsp
      exact end_ S6 fun s7 J7 => ⟨_, _, J7, q6⟩
    | ret u =>
      obtain ⟨v6, σ6, H6, S6, r6, q6⟩ := hsp
      exact end_ S6 fun s7 J7 => ⟨_, _, _, J7, r6, q6⟩
  · cases f with
    | next =>
      obtain ⟨σ', H', J', q⟩ := hsp
      exact wpAny_execs_nil ⟨σ', H', J'.ofTry ok, q⟩
    | brk =>
      obtain ⟨σ', H', J', q⟩ := hsp
      exact ⟨σ', H', J'.ofTry ok, q⟩
    | cont =>
      obtain ⟨σ', H', J', q⟩ := hsp
      exact ⟨σ', H', J'.ofTry ok, q⟩
    | ret u =>
      obtain ⟨v, σ', H', J', r, q⟩ := hsp
      exact ⟨v, σ', H', J'.ofTry ok, r, q⟩
end
end L3
namespace L3
open PySem PySem.Spec PyProof.Rows L2
/-- a field of an own exception class at C -/
structure EFld (K : PySem.W.Frag) (C : Addr) (f : Str) : Prop where
  ga : PySem.W.findIn K (.ref C) "__getattribute__" = some (some (.builtin "BaseException.__getattribute__"))
  gg : PySem.W.findIn K (.ref C) "__getattr__" = some none
  no : PySem.W.findIn K (.ref C) f = some none
  ex : PySem.W.subIn K (.ref C) (.type "BaseException") = some true
  hd : PySem.W.hasDictIn K C = true
theorem ef_ok {K : PySem.W.Frag} {C : Addr} {f : Str} (h : efB K C f = true) : EFld K C f := by
  obtain ⟨h1, h⟩ := He.ba h
  obtain ⟨h2, h⟩ := He.ba h
  obtain ⟨h3, h⟩ := He.ba h
  obtain ⟨h4, h5⟩ := He.ba h
  exact ⟨He.eqO_ok h1, He.eqO_ok h2, He.eqO_ok h3, of_decide_eq_true h4, h5⟩
/-- the classes cs have the field f -/
def HasEF (K : PySem.W.Frag) (cs : List Str) (f : Str) : Prop := ∀ c ∈ cs, EFld K (He.ga K c) f
@[simp] def fEFld (cs : List Str) (f : Str) : PV → S → R S PV := fun p s => match p with
  | .exc c ns xs => if c ∈ cs then optR (getV f ns xs) s else .bad
  | _ => .bad
section
variable {X : Cx} {g : Gx} {e : Expr} {de : DE} {f : Str} {cs : List Str} {pos : Pos}
theorem j_efld (T : HasEF X.K cs f) (he : JE X g e de) (hb : attributeBase e f X.env (eval e X.env) = eval e X.env := by rfl) : JE X g (.Attribute e f pos) (dUn (fEFld cs f) de) := by
  refine ⟨fun pins s σ H Q I h => ?_⟩
  obtain ⟨l, s0, rfl, ok, h⟩ := h
  refine attr_of hb (thn (he.run pins s σ _ _ I ⟨l, s0, rfl, ok, Run.bind h⟩) fun u s1 ⟨x, H1, I1, rx, l1, s2, v, e1, ok1, r1, st1, h1⟩ => ?_)
  subst e1
  cases v with
  | exc c ns xs =>
    simp only [fEFld] at h1
    by_cases hc : c ∈ cs
    · rw [if_pos hc] at h1
      cases e3 : getV f ns xs with
      | none => simp only [e3, optR] at h1; exact h1.elim
      | some y =>
        simp only [e3, optR] at h1
        obtain ⟨a, d, vs, rfl, na, ha, hl, hd, rxs⟩ := r1
        obtain rfl : u = Value.ref a := rx
        obtain ⟨w, hw, rw'⟩ := rxs.getV e3
        rcases hd with ⟨_, hd⟩ | ⟨dd, rfl, nd, hd⟩
        · subst hd
          simp [getV] at e3
        · have T1 := T c hc
          obtain ⟨⟨oe, vs', h4, h5, h6, h7⟩, _⟩ := (show ObjOk X.prog X.w l1.H s1.heap a (exv a (He.ga X.K c) (some dd)) from I1.hok a _ ha)
          obtain ⟨mA, hns, hr⟩ := (show ObjOk X.prog X.w l1.H s1.heap dd (.xd (ns.zip vs)) from I1.hok dd _ hd)
          obtain ⟨od, ho, hk⟩ := lookIn_ns hns
          obtain ⟨u', hu, ru⟩ := RelO.some_of (v := w) (o := mA f) (by rw [← hw, ← lookup_zip]; exact hr f)
          have J : PySem.W.InstAt s1.heap a oe (He.ga X.K c) (some od) := ⟨h4, h5, by unfold PySem.W.notCls; rw [h7] <;> rfl, by rw [h6]; exact ho⟩
          exact HandSPX.exc_get I1.kIn J T1.ga T1.gg T1.ex (PySem.W.findObj_own T1.hd T1.no rfl (by rw [hk, hu])) (handed_of ru) ⟨w, l1.H, I1.tok _, ru, h1 l1 w (Step.refl l1) ok1 rw'⟩
    · rw [if_neg hc] at h1
      exact h1.elim
  | _ => exact h1.elim
end
end L3
namespace L3
open PySem PySem.Spec PyProof.Rows L2
theorem hasE_of {P : Program} {w : World} {K : PySem.W.Frag} {mg : Str → Option Value} {base : Heap} {c f : Str} {b : EB} {x qual : Str} {params : Arguments} {body : List Stmt} {scope : Scope} {dvs : List V} {kws : List (Str × V)} {fd : FuncData} {q1 q2 q3 q4 : Pos}
    (hm : mg c = some (.ref (He.ga K c))) (h : oxB b c f K = true) (F : FunD K x qual params body scope dvs kws (He.ma K (He.ga K c) "__init__") fd) (hbd : Binds K fd ["self", f] []) (S : FnScope ["self", f] ["self", f] scope)
    (hb : body = [.Assign [.Attribute (.Name "self" q1) f q2] (.Name f q3) q4]) (h1 : (f == ("__debug__" : Str)) = false := by decide) (h2 : (f == ("__classdict__" : Str)) = false := by decide) : HasE P w K mg base c f b := by
  obtain ⟨a1, h⟩ := He.ba h
  obtain ⟨a2, h⟩ := He.ba h
  obtain ⟨a3, h⟩ := He.ba h
  obtain ⟨a4, h⟩ := He.ba h
  obtain ⟨a5, h⟩ := He.ba h
  obtain ⟨a6, h⟩ := He.ba h
  obtain ⟨a7, h⟩ := He.ba h
  obtain ⟨a8, h⟩ := He.ba h
  obtain ⟨a9, a10⟩ := He.ba h
  have T : OxB K b (He.ga K c) := ⟨a1, a2, a3, He.eqO_ok a4, of_decide_eq_true a5, of_decide_eq_true a6, a7⟩
  exact ⟨hm, T, _, fd, He.eqO_ok a8, a9, hbd, initB T (He.eqO_ok a10) F S hb h1 h2⟩
theorem hasE0_of {K : PySem.W.Frag} {mg : Str → Option Value} {c : Str} {b : EB} (hm : mg c = some (.ref (He.ga K c))) (h : ex0B b c K = true) : HasE0 K mg c b := by
  obtain ⟨a1, h⟩ := He.ba h
  obtain ⟨a2, h⟩ := He.ba h
  obtain ⟨a3, a4⟩ := He.ba h
  exact ⟨hm, a1, a2, of_decide_eq_true a3, of_decide_eq_true a4⟩
theorem hasEF_of {K : PySem.W.Frag} {cs : List Str} {f : Str} (h : hefB cs f K = true) : HasEF K cs f := fun c hc => ef_ok (List.all_eq_true.mp h c hc)
/-- an except clause that names ns takes yes -/
def HasT (K : PySem.W.Frag) (mg : Str → Option Value) (ns yes : List Str) : Prop := (∀ n ∈ ns, mg n = some (.ref (He.ga K n))) ∧ ∀ c ∈ yes, PySem.W.exmAny K (.ref (He.ga K c)) (ns.map fun n => .ref (He.ga K n)) = some true
theorem hasT_of {K : PySem.W.Frag} {mg : Str → Option Value} {ns yes : List Str} (h1 : ∀ n ∈ ns, mg n = some (.ref (He.ga K n))) (h2 : htB ns yes K = true) : HasT K mg ns yes := ⟨h1, fun c hc => of_decide_eq_true (List.all_eq_true.mp h2 c hc)⟩
section
variable {X : Cx}
theorem nml_nil : NmL X [] [] := True.intro
theorem nml_cons {x : Str} {p : Pos} {es : List Expr} {c : Value} {cs : List Value} (hm : X.mg x = some c) (r : NmL X es cs) (hg : Gl X x := by rfl) (hdb : (x == ("__debug__" : Str)) = false := by decide) : NmL X (.Name x p :: es) (c :: cs) := ⟨⟨x, p, rfl, hg, hdb, hm⟩, r⟩
end
end L3
namespace LD
open PySem L3
def okR (t b : Int) : Bool := decide (ib b ≤ 9000)
/-- slots: _law_script, _law_k, _law_cell -/
def d_w_source : DS := (dSeq (dSet 2 (dIf (dTru (dBin (gEq true) (dVar 0) (dLst dNil))) (dBin fIx (dVar 0) (dBin gMod (dVar 1) (dFn fLen (dCons (dVar 0) dNil)))) (dC (.int 1)))) (dRet (dNewF (dLstF (dCons (dVar 2) (dCons (dBin gMul (dC (.int 3)) (dVar 1)) (dCons (dIf (dTru (dBin gGe (dVar 2) (dBin gPow (dC (.int 10)) (dC (.int 18))))) (dBin gFdiv (dVar 2) (dBin gPow (dC (.int 10)) (dC (.int 18)))) (dC (.int 0))) dNil)))))))
def F_w_source : DF := runBody 3 d_w_source
/-- slots: _law_source_here, _law_many, _law_primes, _law_prime, _law_found -/
def d_w_next : DS := (dSeq (dIfS (dTru (dBin gGt (dBin fIx (dVar 0) (dC (.int 2))) (dC (.int 0)))) (dSeq (dSet 4 (dBin gMod (dBin fIx (dVar 0) (dC (.int 2))) (dVar 1))) (dSeq (dPut 0 (dBin gFdiv (dBin fIx (dVar 0) (dC (.int 2))) (dVar 1)) (dC (.int 2))) (dRet (dVar 4)))) dSkip) (dSeq (dPut 0 (dBin gAdd (dBin fIx (dVar 0) (dC (.int 1))) (dC (.int 1))) (dC (.int 1))) (dSeq (dSet 2 (dLst (dCons (dC (.int 2147483647)) (dCons (dC (.int 2147483629)) (dCons (dC (.int 2147483587)) (dCons (dC (.int 2147483579)) (dCons (dC (.int 2147483563)) (dCons (dC (.int 2147483549)) (dCons (dC (.int 2147483543)) (dCons (dC (.int 2147483497)) dNil)))))))))) (dSeq (dSet 3 (dBin fIx (dBin gAdd (dVar 2) (dLst (dCons (dC (.int 2147483489)) (dCons (dC (.int 2147483477)) (dCons (dC (.int 2147483423)) dNil))))) (dBin gMod (dBin fIx (dVar 0) (dC (.int 1))) (dC (.int 11))))) (dRet (dBin gMod (dBin gFdiv (dBin gMod (dBin gPow (dBin gAdd (dBin gAdd (dBin gMod (dBin fIx (dVar 0) (dC (.int 0))) (dVar 3)) (dBin gMul (dC (.int 7919)) (dBin fIx (dVar 0) (dC (.int 1))))) (dC (.int 1))) (dC (.int 5))) (dVar 3)) (dC (.int 13))) (dVar 1)))))))
def F_w_next : DF := runBody 5 d_w_next
/-- slots: _law_source_here, _law_items -/
def d_w_pick : DS := (dRet (dBin fIx (dVar 1) (dFnS F_w_next (dCons (dVar 0) (dCons (dFn fLen (dCons (dVar 1) dNil)) dNil)))))
def F_w_pick : DF := runBody 2 d_w_pick
/-- slots: _law_top, _law_bottom, _law_one, _law_other -/
def d_w_low : DS := (dSeq (dPar [2, 3] (dCons (dFn fAbsI (dCons (dVar 0) dNil)) (dCons (dFn fAbsI (dCons (dVar 1) dNil)) dNil))) (dSeq (dWhile (fuI 3) (dTru (dBin (gEq true) (dVar 3) (dC (.int 0)))) (dPar [2, 3] (dCons (dVar 3) (dCons (dBin gMod (dVar 2) (dVar 3)) dNil)))) (dRet (dIf (dTru (dBin gGt (dVar 1) (dC (.int 0)))) (dTup (dCons (dBin gFdiv (dVar 0) (dVar 2)) (dCons (dBin gFdiv (dVar 1) (dVar 2)) dNil))) (dTup (dCons (dBin gSub (dC (.int 0)) (dBin gFdiv (dVar 0) (dVar 2))) (dCons (dBin gSub (dC (.int 0)) (dBin gFdiv (dVar 1) (dVar 2))) dNil)))))))
def F_w_low : DF := runBody 4 d_w_low
/-- slots: _law_source_here, _law_way -/
def d_w_drawn : DS := (dSeq (dSet 1 (dFnS F_w_next (dCons (dVar 0) (dCons (dC (.int 4)) dNil)))) (dSeq (dIfS (dTru (dBin gLt (dVar 1) (dC (.int 2)))) (dRet (dTup (dCons (dBin gSub (dFnS F_w_next (dCons (dVar 0) (dCons (dC (.int 9)) dNil))) (dC (.int 3))) (dCons (dC (.int 1)) dNil)))) dSkip) (dRet (dFnS F_w_low (dCons (dBin gSub (dFnS F_w_next (dCons (dVar 0) (dCons (dC (.int 61)) dNil))) (dC (.int 30))) (dCons (dBin gAdd (dC (.int 1)) (dFnS F_w_next (dCons (dVar 0) (dCons (dIf (dTru (dBin (gEq false) (dVar 1) (dC (.int 2)))) (dC (.int 6)) (dC (.int 3))) dNil)))) dNil))))))
def F_w_drawn : DF := runBody 2 d_w_drawn
/-- slots: value -/
def d_is_integer : DS := (dRet (dAnd (dUn (fIsi bInt) (dVar 0)) (dNot (dUn (fIsi bBool) (dVar 0)))))
def F_is_integer : DF := runBody 1 d_is_integer
/-- slots: one, other -/
def d_common_divisor : DS := (dSeq (dPar [0, 1] (dCons (dFn fAbsI (dCons (dVar 0) dNil)) (dCons (dFn fAbsI (dCons (dVar 1) dNil)) dNil))) (dSeq (dWhile (fuI 1) (dTru (dBin gGt (dVar 1) (dC (.int 0)))) (dPar [0, 1] (dCons (dVar 1) (dCons (dBin gMod (dVar 0) (dVar 1)) dNil)))) (dRet (dVar 0))))
def F_common_divisor : DF := runBody 2 d_common_divisor
/-- slots: self, top, bottom, value, divisor -/
def d_Ratio___init__ (CR : Addr) : DS := (dSeq (dFor (iSeq (dTup (dCons (dVar 1) (dCons (dVar 2) dNil)))) (gN 3) (dIfS (dNotT (dTru (dFnS F_is_integer (dCons (dVar 3) dNil)))) dNever dSkip)) (dSeq (dIfS (dTru (dBin (gEq false) (dVar 2) (dC (.int 0)))) dNever dSkip) (dSeq (dSet 4 (dFnS F_common_divisor (dCons (dVar 1) (dCons (dVar 2) dNil)))) (dSeq (dFPut [CR] "own_top" (dVar 0) (dIf (dTru (dBin gGt (dVar 2) (dC (.int 0)))) (dBin gFdiv (dVar 1) (dVar 4)) (dBin gSub (dC (.int 0)) (dBin gFdiv (dVar 1) (dVar 4))))) (dFPut [CR] "own_bottom" (dVar 0) (dBin gFdiv (dFn fAbsI (dCons (dVar 2) dNil)) (dVar 4)))))))
/-- slots: _law_some, _law_top, _law_bottom -/
def d_w_given : DS := (dRet (dFr (dComp (iSeq (dVar 0)) (gT 2 (gCons (gN 1) (gCons (gN 2) gNil))) dYes (dIf (dTru (dBin gGt (dVar 2) (dC (.int 1)))) (dFn (fMakeR okR) (dCons (dVar 1) (dCons (dVar 2) dNil))) (dVar 1)) [1, 2])))
def F_w_given : DF := runBody 3 d_w_given
/-- slots: value -/
def d_is_number : DS := (dRet (dOr (dFnS F_is_integer (dCons (dVar 0) dNil)) (dUn (fIsi bRat) (dVar 0))))
def F_is_number : DF := runBody 1 d_is_number
/-- slots: value -/
def d_need_number : DS := (dIfS (dNotT (dTru (dFnS F_is_number (dCons (dVar 0) dNil)))) (dRaise "BadNumber" "value" (dVar 0)) dSkip)
def F_need_number : DF := runBody 1 d_need_number
/-- slots: value -/
def d_ratio_of : DS := (dRet (dIf (dTru (dUn (fIsi bRat) (dVar 0))) (dVar 0) (dFn (fMakeR okR) (dCons (dVar 0) dNil))))
def F_ratio_of : DF := runBody 1 d_ratio_of
/-- slots: cls, value -/
def d_Ratio_of : DS := (dSeq (dExpr (dFnS F_need_number (dCons (dVar 1) dNil))) (dRet (dFnS F_ratio_of (dCons (dVar 1) dNil))))
def F_Ratio_of : DF := runBody 2 d_Ratio_of
/-- slots: _law_one, _law_other -/
def d_w_plus : DS := (dRet (dFnS F_w_low (dCons (dBin gAdd (dBin gMul (dBin fIx (dVar 0) (dC (.int 0))) (dBin fIx (dVar 1) (dC (.int 1)))) (dBin gMul (dBin fIx (dVar 1) (dC (.int 0))) (dBin fIx (dVar 0) (dC (.int 1))))) (dCons (dBin gMul (dBin fIx (dVar 0) (dC (.int 1))) (dBin fIx (dVar 1) (dC (.int 1)))) dNil))))
def F_w_plus : DF := runBody 2 d_w_plus
/-- slots: _law_one, _law_other -/
def d_w_through : DS := (dRet (dFnS F_w_low (dCons (dBin gMul (dBin fIx (dVar 0) (dC (.int 0))) (dBin fIx (dVar 1) (dC (.int 1)))) (dCons (dBin gMul (dBin fIx (dVar 0) (dC (.int 1))) (dBin fIx (dVar 1) (dC (.int 0)))) dNil))))
def F_w_through : DF := runBody 2 d_w_through
/-- slots: value -/
def d_is_row : DS := (dRet (dAnd (dUn (fIsi fun t => match bTup t with | some true => some true | some false => bLst t | none => none) (dVar 0)) (dBin gLe (dFn fLen (dCons (dVar 0) dNil)) (dC (.int 1000)))))
def F_is_row : DF := runBody 1 d_is_row
/-- slots: values -/
def d_need_items : DS := (dIfS (dTru (dBin (gEq false) (dFn fLen (dCons (dVar 0) dNil)) (dC (.int 0)))) (dRaise0 "Empty") dSkip)
def F_need_items : DF := runBody 1 d_need_items
/-- slots: values, bottom, value -/
def d_common : DS := (dSeq (dSet 1 (dC (.int 1))) (dSeq (dFor (iSeq (dVar 0)) (gN 2) (dSet 1 (dBin gMul (dBin gFdiv (dVar 1) (dFnS F_common_divisor (dCons (dVar 1) (dCons (dUn fBot (dVar 2)) dNil)))) (dUn fBot (dVar 2))))) (dRet (dTup (dCons (dFr (dComp (iSeq (dVar 0)) (gN 2) dYes (dBin gMul (dUn fTop (dVar 2)) (dBin gFdiv (dVar 1) (dUn fBot (dVar 2)))) [2])) (dCons (dVar 1) dNil))))))
def F_common : DF := runBody 3 d_common
/-- slots: values, integers, bottom -/
def d_total : DS := (dSeq (dAsg (dFnS F_common (dCons (dVar 0) dNil)) (gT 2 (gCons (gN 1) (gCons (gN 2) gNil)))) (dRet (dFn (fMakeR okR) (dCons (dFn fSumI (dCons (dVar 1) dNil)) (dCons (dVar 2) dNil)))))
def F_total : DF := runBody 3 d_total
/-- slots: self, other, far -/
def d_Ratio_over : DS := (dSeq (dExpr (dFnS F_need_number (dCons (dVar 1) dNil))) (dSeq (dSet 2 (dFnS F_ratio_of (dCons (dVar 1) dNil))) (dRet (dFn (fMakeR okR) (dCons (dBin gMul (dUn fTop (dVar 0)) (dUn fBot (dVar 2))) (dCons (dBin gMul (dUn fBot (dVar 0)) (dUn fTop (dVar 2))) dNil))))))
def F_Ratio_over : DF := runBody 3 d_Ratio_over
/-- slots: values -/
def d_mean_of : DS := (dRet (dMethR (fMt 2 F_Ratio_over) (dFnS F_total (dCons (dVar 0) dNil)) (dCons (dFn fLen (dCons (dVar 0) dNil)) dNil)))
def F_mean_of : DF := runBody 1 d_mean_of
/-- slots: self -/
def d_Ratio_bottom : DS := (dRet (dUn fBot (dVar 0)))
/-- slots: self -/
def d_Ratio_top : DS := (dRet (dUn fTop (dVar 0)))
/-- slots: _law_value -/
def d_w_taken : DS := (dRet (dIf (dTru (dUn (fIsi bRat) (dVar 0))) (dTup (dCons (dUn fTop (dVar 0)) (dCons (dUn fBot (dVar 0)) dNil))) (dC .non)))
def F_w_taken : DF := runBody 1 d_w_taken
/-- slots: _law_source_here, _law_items, _law_rest, _law_found -/
def d_w_mixed : DS := (dSeq (dAsgX [2, 3] (xOwn (dListF (dVar 1)) (xOwn (dLstF dNil) xNil))) (dSeq (dWhile (fuL 2) (dBorT [2, 3] (dTru (dBin (gEq true) (dVar 2) (dLst dNil)))) (dExpr (dApp 3 (dPopAt 2 (dBor [2, 3] (dFnS F_w_next (dCons (dVar 0) (dCons (dFn fLen (dCons (dVar 2) dNil)) dNil)))))))) (dFrz [2, 3] (dRet (dVar 3)))))
def F_w_mixed : DF := runBody 4 d_w_mixed
end LD
namespace L3
class Ko (a s : Type) where
  run : a → s → Prop
def WD {s a : Type} (r : R s a) (Q : a → s → Prop) : Prop := match r with
  | .ok v t => Q v t
  | _ => False
inductive WI {s a : Type} (r : R s a) [K : Ko a s] : Prop where
  | mk (h : WD r K.run) : WI r
abbrev W {s a : Type} (r : R s a) (Q : a → s → Prop) : Prop := @WI s a r ⟨Q⟩
theorem WI_iff {s a : Type} {r : R s a} {Q : a → s → Prop} : @WI s a r ⟨Q⟩ = WD r Q := propext ⟨fun h => h.1, fun h => @WI.mk s a r ⟨Q⟩ h⟩
section
variable {s a b : Type} {r : R s a} {Q Q' : a → s → Prop}
@[simp] theorem D_ok {v : a} {t : s} {Q : a → s → Prop} : WD (.ok v t) Q = Q v t := rfl
theorem W_ok {v : a} {t : s} {Q : a → s → Prop} : W (.ok v t) Q = Q v t := by
  simp only [W, WI_iff]
  exact D_ok
@[simp] theorem I_ok {v : a} {t : s} {Q : a → s → Prop} : WI (.ok v t) (K := ⟨Q⟩) = Q v t := W_ok
@[simp] theorem D_bad {Q : a → s → Prop} : WD .bad Q = False := rfl
theorem W_bad {Q : a → s → Prop} : W .bad Q = False := by
  simp only [W, WI_iff]
  exact D_bad
@[simp] theorem I_bad {Q : a → s → Prop} : WI .bad (K := ⟨Q⟩) = False := W_bad
@[simp] theorem D_exn {e : PV} {t : s} {Q : a → s → Prop} : WD (.exn e t) Q = False := rfl
theorem W_exn {e : PV} {t : s} {Q : a → s → Prop} : W (.exn e t) Q = False := by
  simp only [W, WI_iff]
  exact D_exn
@[simp] theorem I_exn {e : PV} {t : s} {Q : a → s → Prop} : WI (.exn e t) (K := ⟨Q⟩) = False := W_exn
@[simp] theorem D_bind {k : a → s → R s b} {P : b → s → Prop} : WD (r.bind k) P = WD r (fun v t => WD (k v t) P) := by cases r <;> rfl
theorem W_bind {k : a → s → R s b} {P : b → s → Prop} : W (r.bind k) P = W r (fun v t => W (k v t) P) := by
  simp only [W, WI_iff]
  exact D_bind
@[simp ↓] theorem I_bind {k : a → s → R s b} {P : b → s → Prop} : WI (r.bind k) (K := ⟨P⟩) = WI r (K := ⟨(fun v t => WI (k v t) (K := ⟨P⟩))⟩) := W_bind
theorem WD.mono (h : WD r Q) (i : ∀ v t, Q v t → Q' v t) : WD r Q' := by
  cases r with
  | ok v t => exact i v t h
  | _ => exact h
theorem W.mono (h : W r Q) (i : ∀ v t, Q v t → Q' v t) : W r Q' := by
  simp only [W, WI_iff] at *
  exact WD.mono h i
theorem WD.of {v : a} {t : s} (e : r = .ok v t) (h : Q v t) : WD r Q := by rw [e]; exact h
theorem W.of {v : a} {t : s} (e : r = .ok v t) (h : Q v t) : W r Q := by
  simp only [W, WI_iff]
  exact WD.of e h
theorem WD.out (h : WD r Q) : ∃ v t, r = .ok v t ∧ Q v t := by
  cases r with
  | ok v t => exact ⟨v, t, rfl, h⟩
  | _ => exact h.elim
theorem W.out (h : W r Q) : ∃ v t, r = .ok v t ∧ Q v t := by
  simp only [W, WI_iff] at h
  exact WD.out h
end
section
variable {s : S} {Q : PV → S → Prop} {P : Fl → S → Prop} {T : Bool → S → Prop} {A : List PV → S → Prop} {da db dc : DE} {dr : DA} {ds du : DS} {ta tb : DT} {f f' : PV → PV → S → R S PV} {g : PV → S → R S PV} {fn : List PV → S → R S PV} {F : DF} {i n : Nat} {tg : DG} {dl : DL} {di : DI}
theorem D_dSeq : WD (dSeq ds du s) P = WD (ds s) (fun f s1 => match f with | .nx => WD (du s1) P | .rt v => P (.rt v) s1 | .bk => P .bk s1 | .ct => P .ct s1) := by
  show WD ((ds s).bind _) P = _
  rw [D_bind]
  congr 1
  funext f s1
  cases f <;> rfl
theorem W_dSeq : W (dSeq ds du s) P = W (ds s) (fun f s1 => match f with | .nx => W (du s1) P | .rt v => P (.rt v) s1 | .bk => P .bk s1 | .ct => P .ct s1) := by
  simp only [W, WI_iff]
  exact D_dSeq
@[simp ↓] theorem I_dSeq : WI (dSeq ds du s) (K := ⟨P⟩) = WI (ds s) (K := ⟨(fun f s1 => match f with | .nx => WI (du s1) (K := ⟨P⟩) | .rt v => P (.rt v) s1 | .bk => P .bk s1 | .ct => P .ct s1)⟩) := W_dSeq
theorem D_dSet : WD (dSet i da s) P = WD (da s) (fun v s1 => P .nx (setE i v s1)) := D_bind
theorem W_dSet : W (dSet i da s) P = W (da s) (fun v s1 => P .nx (setE i v s1)) := by
  simp only [W, WI_iff]
  exact D_dSet
@[simp ↓] theorem I_dSet : WI (dSet i da s) (K := ⟨P⟩) = WI (da s) (K := ⟨(fun v s1 => P .nx (setE i v s1))⟩) := W_dSet
theorem D_dExpr : WD (dExpr da s) P = WD (da s) (fun v s1 => P .nx s1) := D_bind
theorem W_dExpr : W (dExpr da s) P = W (da s) (fun v s1 => P .nx s1) := by
  simp only [W, WI_iff]
  exact D_dExpr
@[simp ↓] theorem I_dExpr : WI (dExpr da s) (K := ⟨P⟩) = WI (da s) (K := ⟨(fun v s1 => P .nx s1)⟩) := W_dExpr
theorem D_dRet : WD (dRet da s) P = WD (da s) (fun v s1 => P (.rt v) s1) := D_bind
theorem W_dRet : W (dRet da s) P = W (da s) (fun v s1 => P (.rt v) s1) := by
  simp only [W, WI_iff]
  exact D_dRet
@[simp ↓] theorem I_dRet : WI (dRet da s) (K := ⟨P⟩) = WI (da s) (K := ⟨(fun v s1 => P (.rt v) s1)⟩) := W_dRet
theorem D_dIfS : WD (dIfS ta ds du s) P = WD (ta s) (fun x s1 => if x = true then WD (ds s1) P else WD (du s1) P) := by
  show WD ((ta s).bind _) P = _
  rw [D_bind]
  congr 1
  funext f s1
  cases f <;> simp
theorem W_dIfS : W (dIfS ta ds du s) P = W (ta s) (fun x s1 => if x = true then W (ds s1) P else W (du s1) P) := by
  simp only [W, WI_iff]
  exact D_dIfS
@[simp ↓] theorem I_dIfS : WI (dIfS ta ds du s) (K := ⟨P⟩) = WI (ta s) (K := ⟨(fun x s1 => if x = true then WI (ds s1) (K := ⟨P⟩) else WI (du s1) (K := ⟨P⟩))⟩) := W_dIfS
theorem D_dIf : WD (dIf ta da db s) Q = WD (ta s) (fun x s1 => if x = true then WD (da s1) Q else WD (db s1) Q) := by
  show WD ((ta s).bind _) Q = _
  rw [D_bind]
  congr 1
  funext f s1
  cases f <;> simp
theorem W_dIf : W (dIf ta da db s) Q = W (ta s) (fun x s1 => if x = true then W (da s1) Q else W (db s1) Q) := by
  simp only [W, WI_iff]
  exact D_dIf
@[simp ↓] theorem I_dIf : WI (dIf ta da db s) (K := ⟨Q⟩) = WI (ta s) (K := ⟨(fun x s1 => if x = true then WI (da s1) (K := ⟨Q⟩) else WI (db s1) (K := ⟨Q⟩))⟩) := W_dIf
theorem D_dBin : WD (dBin f da db s) Q = WD (da s) (fun x s1 => WD (db s1) fun y s2 => WD (f x y s2) Q) := by
  show WD ((da s).bind _) Q = _
  rw [D_bind]
  congr 1
  funext x s1
  exact D_bind
theorem W_dBin : W (dBin f da db s) Q = W (da s) (fun x s1 => W (db s1) fun y s2 => W (f x y s2) Q) := by
  simp only [W, WI_iff]
  exact D_dBin
@[simp ↓] theorem I_dBin : WI (dBin f da db s) (K := ⟨Q⟩) = WI (da s) (K := ⟨(fun x s1 => WI (db s1) (K := ⟨fun y s2 => WI (f x y s2) (K := ⟨Q⟩)⟩))⟩) := W_dBin
theorem D_dUn : WD (dUn g da s) Q = WD (da s) (fun x s1 => WD (g x s1) Q) := D_bind
theorem W_dUn : W (dUn g da s) Q = W (da s) (fun x s1 => W (g x s1) Q) := by
  simp only [W, WI_iff]
  exact D_dUn
@[simp ↓] theorem I_dUn : WI (dUn g da s) (K := ⟨Q⟩) = WI (da s) (K := ⟨(fun x s1 => WI (g x s1) (K := ⟨Q⟩))⟩) := W_dUn
theorem D_dNil : WD (dNil s) A = A [] s := rfl
theorem W_dNil : W (dNil s) A = A [] s := by
  simp only [W, WI_iff]
  exact D_dNil
@[simp ↓] theorem I_dNil : WI (dNil s) (K := ⟨A⟩) = A [] s := W_dNil
theorem D_dCons : WD (dCons da dr s) A = WD (da s) (fun x s1 => WD (dr s1) fun xs s2 => A (x :: xs) s2) := by
  show WD ((da s).bind _) A = _
  rw [D_bind]
  congr 1
  funext x s1
  exact D_bind
theorem W_dCons : W (dCons da dr s) A = W (da s) (fun x s1 => W (dr s1) fun xs s2 => A (x :: xs) s2) := by
  simp only [W, WI_iff]
  exact D_dCons
@[simp ↓] theorem I_dCons : WI (dCons da dr s) (K := ⟨A⟩) = WI (da s) (K := ⟨(fun x s1 => WI (dr s1) (K := ⟨fun xs s2 => A (x :: xs) s2⟩))⟩) := W_dCons
theorem D_dFn : WD (dFn fn dr s) Q = WD (dr s) (fun ps s1 => WD (fn ps s1) Q) := D_bind
theorem W_dFn : W (dFn fn dr s) Q = W (dr s) (fun ps s1 => W (fn ps s1) Q) := by
  simp only [W, WI_iff]
  exact D_dFn
@[simp ↓] theorem I_dFn : WI (dFn fn dr s) (K := ⟨Q⟩) = WI (dr s) (K := ⟨(fun ps s1 => WI (fn ps s1) (K := ⟨Q⟩))⟩) := W_dFn
theorem D_dFnS : WD (dFnS F dr s) Q = WD (dr s) (fun ps s1 => WD (F ps s1.mu) (fun v mu => Q v ⟨s1.env, mu⟩)) := by
  show WD ((dr s).bind _) Q = _
  rw [D_bind]
  congr 1
  funext ps s1
  cases F ps s1.mu <;> rfl
theorem W_dFnS : W (dFnS F dr s) Q = W (dr s) (fun ps s1 => W (F ps s1.mu) (fun v mu => Q v ⟨s1.env, mu⟩)) := by
  simp only [W, WI_iff]
  exact D_dFnS
@[simp ↓] theorem I_dFnS : WI (dFnS F dr s) (K := ⟨Q⟩) = WI (dr s) (K := ⟨(fun ps s1 => WI (F ps s1.mu) (K := ⟨(fun v mu => Q v ⟨s1.env, mu⟩)⟩))⟩) := W_dFnS
theorem D_fnS {ps : List PV} : WD (fnS F ps s) Q = WD (F ps s.mu) (fun v mu => Q v ⟨s.env, mu⟩) := by
  show WD (match F ps s.mu with | .ok v mu => _ | .exn e mu => _ | .bad => _) Q = _
  cases F ps s.mu <;> rfl
theorem W_fnS {ps : List PV} : W (fnS F ps s) Q = W (F ps s.mu) (fun v mu => Q v ⟨s.env, mu⟩) := by
  simp only [W, WI_iff]
  exact D_fnS
@[simp ↓] theorem I_fnS {ps : List PV} : WI (fnS F ps s) (K := ⟨Q⟩) = WI (F ps s.mu) (K := ⟨(fun v mu => Q v ⟨s.env, mu⟩)⟩) := W_fnS
theorem D_fMt {ps : List PV} : WD (fMt n F ps s) Q = (ps.length = n ∧ WD (F ps s.mu) (fun v mu => Q v ⟨s.env, mu⟩)) := by
  show WD (if ps.length = n then fnS F ps s else .bad) Q = _
  by_cases h : ps.length = n
  · rw [if_pos h, D_fnS]; simp [h]
  · rw [if_neg h]; simp [h]
theorem W_fMt {ps : List PV} : W (fMt n F ps s) Q = (ps.length = n ∧ W (F ps s.mu) (fun v mu => Q v ⟨s.env, mu⟩)) := by
  simp only [W, WI_iff]
  exact D_fMt
@[simp ↓] theorem I_fMt {ps : List PV} : WI (fMt n F ps s) (K := ⟨Q⟩) = (ps.length = n ∧ WI (F ps s.mu) (K := ⟨(fun v mu => Q v ⟨s.env, mu⟩)⟩)) := W_fMt
theorem D_fCm {ps : List PV} {C : PySem.Addr} : WD (fCm n C F ps s) Q = (ps.length + 1 = n ∧ WD (F (.adr C :: ps) s.mu) (fun v mu => Q v ⟨s.env, mu⟩)) := by
  show WD (if ps.length + 1 = n then fnS F (.adr C :: ps) s else .bad) Q = _
  by_cases h : ps.length + 1 = n
  · rw [if_pos h, D_fnS]; simp [h]
  · rw [if_neg h]; simp [h]
theorem W_fCm {ps : List PV} {C : PySem.Addr} : W (fCm n C F ps s) Q = (ps.length + 1 = n ∧ W (F (.adr C :: ps) s.mu) (fun v mu => Q v ⟨s.env, mu⟩)) := by
  simp only [W, WI_iff]
  exact D_fCm
@[simp ↓] theorem I_fCm {ps : List PV} {C : PySem.Addr} : WI (fCm n C F ps s) (K := ⟨Q⟩) = (ps.length + 1 = n ∧ WI (F (.adr C :: ps) s.mu) (K := ⟨(fun v mu => Q v ⟨s.env, mu⟩)⟩)) := W_fCm
theorem D_dTup : WD (dTup dr s) Q = WD (dr s) (fun xs s1 => xs.length ≤ 1000 ∧ Q (.tup xs) s1) := by
  show WD ((dr s).bind _) Q = _
  rw [D_bind]
  congr 1
  funext xs s1
  by_cases h : xs.length ≤ 1000 <;> simp [h]
theorem W_dTup : W (dTup dr s) Q = W (dr s) (fun xs s1 => xs.length ≤ 1000 ∧ Q (.tup xs) s1) := by
  simp only [W, WI_iff]
  exact D_dTup
@[simp ↓] theorem I_dTup : WI (dTup dr s) (K := ⟨Q⟩) = WI (dr s) (K := ⟨(fun xs s1 => xs.length ≤ 1000 ∧ Q (.tup xs) s1)⟩) := W_dTup
theorem D_dLst : WD (dLst dr s) Q = WD (dr s) (fun xs s1 => xs.length ≤ 1000 ∧ Q (.lst xs) s1) := by
  show WD ((dr s).bind _) Q = _
  rw [D_bind]
  congr 1
  funext xs s1
  by_cases h : xs.length ≤ 1000 <;> simp [h]
theorem W_dLst : W (dLst dr s) Q = W (dr s) (fun xs s1 => xs.length ≤ 1000 ∧ Q (.lst xs) s1) := by
  simp only [W, WI_iff]
  exact D_dLst
@[simp ↓] theorem I_dLst : WI (dLst dr s) (K := ⟨Q⟩) = WI (dr s) (K := ⟨(fun xs s1 => xs.length ≤ 1000 ∧ Q (.lst xs) s1)⟩) := W_dLst
theorem D_dLstF {B : List PV → S → Prop} : WD (dLstF dr s) B = WD (dr s) (fun xs s1 => xs.length ≤ 1000 ∧ B xs s1) := by
  show WD ((dr s).bind _) B = _
  rw [D_bind]
  congr 1
  funext xs s1
  by_cases h : xs.length ≤ 1000 <;> simp [h]
theorem W_dLstF {B : List PV → S → Prop} : W (dLstF dr s) B = W (dr s) (fun xs s1 => xs.length ≤ 1000 ∧ B xs s1) := by
  simp only [W, WI_iff]
  exact D_dLstF
@[simp ↓] theorem I_dLstF {B : List PV → S → Prop} : WI (dLstF dr s) (K := ⟨B⟩) = WI (dr s) (K := ⟨(fun xs s1 => xs.length ≤ 1000 ∧ B xs s1)⟩) := W_dLstF
theorem D_dFr : WD (dFr dl s) Q = WD (dl s) (fun xs s1 => Q (.lst xs) s1) := D_bind
theorem W_dFr : W (dFr dl s) Q = W (dl s) (fun xs s1 => Q (.lst xs) s1) := by
  simp only [W, WI_iff]
  exact D_dFr
@[simp ↓] theorem I_dFr : WI (dFr dl s) (K := ⟨Q⟩) = WI (dl s) (K := ⟨(fun xs s1 => Q (.lst xs) s1)⟩) := W_dFr
theorem D_dTru : WD (dTru da s) T = WD (da s) (fun v s1 => match truP v with | some b => T b s1 | none => False) := by
  show WD ((da s).bind _) T = _
  rw [D_bind]
  congr 1
  funext v s1
  cases truP v <;> rfl
theorem W_dTru : W (dTru da s) T = W (da s) (fun v s1 => match truP v with | some b => T b s1 | none => False) := by
  simp only [W, WI_iff]
  exact D_dTru
@[simp ↓] theorem I_dTru : WI (dTru da s) (K := ⟨T⟩) = WI (da s) (K := ⟨(fun v s1 => match truP v with | some b => T b s1 | none => False)⟩) := W_dTru
theorem D_dAndT : WD (dAndT ta tb s) T = WD (ta s) (fun x s1 => if x = true then WD (tb s1) T else T false s1) := by
  show WD ((ta s).bind _) T = _
  rw [D_bind]
  congr 1
  funext f s1
  cases f <;> simp
theorem W_dAndT : W (dAndT ta tb s) T = W (ta s) (fun x s1 => if x = true then W (tb s1) T else T false s1) := by
  simp only [W, WI_iff]
  exact D_dAndT
@[simp ↓] theorem I_dAndT : WI (dAndT ta tb s) (K := ⟨T⟩) = WI (ta s) (K := ⟨(fun x s1 => if x = true then WI (tb s1) (K := ⟨T⟩) else T false s1)⟩) := W_dAndT
theorem D_dOrT : WD (dOrT ta tb s) T = WD (ta s) (fun x s1 => if x = true then T true s1 else WD (tb s1) T) := by
  show WD ((ta s).bind _) T = _
  rw [D_bind]
  congr 1
  funext f s1
  cases f <;> simp
theorem W_dOrT : W (dOrT ta tb s) T = W (ta s) (fun x s1 => if x = true then T true s1 else W (tb s1) T) := by
  simp only [W, WI_iff]
  exact D_dOrT
@[simp ↓] theorem I_dOrT : WI (dOrT ta tb s) (K := ⟨T⟩) = WI (ta s) (K := ⟨(fun x s1 => if x = true then T true s1 else WI (tb s1) (K := ⟨T⟩))⟩) := W_dOrT
theorem D_dNotT : WD (dNotT ta s) T = WD (ta s) (fun x s1 => T (!x) s1) := D_bind
theorem W_dNotT : W (dNotT ta s) T = W (ta s) (fun x s1 => T (!x) s1) := by
  simp only [W, WI_iff]
  exact D_dNotT
@[simp ↓] theorem I_dNotT : WI (dNotT ta s) (K := ⟨T⟩) = WI (ta s) (K := ⟨(fun x s1 => T (!x) s1)⟩) := W_dNotT
theorem D_dAnd : WD (dAnd da db s) Q = WD (da s) (fun x s1 => match x with | .bl true => WD (db s1) Q | .bl false => Q (.bl false) s1 | _ => False) := by
  show WD ((da s).bind _) Q = _
  rw [D_bind]
  congr 1
  funext x s1
  cases x <;> first | rfl | (rename_i b; cases b <;> rfl)
theorem W_dAnd : W (dAnd da db s) Q = W (da s) (fun x s1 => match x with | .bl true => W (db s1) Q | .bl false => Q (.bl false) s1 | _ => False) := by
  simp only [W, WI_iff]
  exact D_dAnd
@[simp ↓] theorem I_dAnd : WI (dAnd da db s) (K := ⟨Q⟩) = WI (da s) (K := ⟨(fun x s1 => match x with | .bl true => WI (db s1) (K := ⟨Q⟩) | .bl false => Q (.bl false) s1 | _ => False)⟩) := W_dAnd
theorem D_dOr : WD (dOr da db s) Q = WD (da s) (fun x s1 => match x with | .bl true => Q (.bl true) s1 | .bl false => WD (db s1) Q | _ => False) := by
  show WD ((da s).bind _) Q = _
  rw [D_bind]
  congr 1
  funext x s1
  cases x <;> first | rfl | (rename_i b; cases b <;> rfl)
theorem W_dOr : W (dOr da db s) Q = W (da s) (fun x s1 => match x with | .bl true => Q (.bl true) s1 | .bl false => W (db s1) Q | _ => False) := by
  simp only [W, WI_iff]
  exact D_dOr
@[simp ↓] theorem I_dOr : WI (dOr da db s) (K := ⟨Q⟩) = WI (da s) (K := ⟨(fun x s1 => match x with | .bl true => Q (.bl true) s1 | .bl false => WI (db s1) (K := ⟨Q⟩) | _ => False)⟩) := W_dOr
theorem D_dNot : WD (dNot da s) Q = WD (da s) (fun x s1 => match x with | .bl b => Q (.bl (!b)) s1 | _ => False) := by
  show WD ((da s).bind _) Q = _
  rw [D_bind]
  congr 1
  funext x s1
  cases x <;> rfl
theorem W_dNot : W (dNot da s) Q = W (da s) (fun x s1 => match x with | .bl b => Q (.bl (!b)) s1 | _ => False) := by
  simp only [W, WI_iff]
  exact D_dNot
@[simp ↓] theorem I_dNot : WI (dNot da s) (K := ⟨Q⟩) = WI (da s) (K := ⟨(fun x s1 => match x with | .bl b => Q (.bl (!b)) s1 | _ => False)⟩) := W_dNot
theorem D_dChain : WD (dChain f f' da db dc s) Q = WD (da s) (fun x s1 => WD (db s1) fun y s2 => WD (f x y s2) fun z s3 => match z with | .bl true => WD (dc s3) (fun w s4 => WD (f' y w s4) Q) | .bl false => Q (.bl false) s3 | _ => False) := by
  show WD ((da s).bind _) Q = _
  rw [D_bind]
  congr 1
  funext x s1
  rw [D_bind]
  congr 1
  funext y s2
  rw [D_bind]
  congr 1
  funext z s3
  cases z <;> first | rfl | (rename_i b; cases b <;> first | rfl | exact D_bind)
theorem W_dChain : W (dChain f f' da db dc s) Q = W (da s) (fun x s1 => W (db s1) fun y s2 => W (f x y s2) fun z s3 => match z with | .bl true => W (dc s3) (fun w s4 => W (f' y w s4) Q) | .bl false => Q (.bl false) s3 | _ => False) := by
  simp only [W, WI_iff]
  exact D_dChain
@[simp ↓] theorem I_dChain : WI (dChain f f' da db dc s) (K := ⟨Q⟩) = WI (da s) (K := ⟨(fun x s1 => WI (db s1) (K := ⟨fun y s2 => WI (f x y s2) (K := ⟨fun z s3 => match z with | .bl true => WI (dc s3) (K := ⟨(fun w s4 => WI (f' y w s4) (K := ⟨Q⟩))⟩) | .bl false => Q (.bl false) s3 | _ => False⟩)⟩))⟩) := W_dChain
theorem D_dPar {js : List Nat} : WD (dPar js dr s) P = WD (dr s) (fun vs s1 => match setP js vs s1 with | some s2 => P .nx s2 | none => False) := by
  show WD ((dr s).bind _) P = _
  rw [D_bind]
  congr 1
  funext v s1
  cases setP js v s1 <;> rfl
theorem W_dPar {js : List Nat} : W (dPar js dr s) P = W (dr s) (fun vs s1 => match setP js vs s1 with | some s2 => P .nx s2 | none => False) := by
  simp only [W, WI_iff]
  exact D_dPar
@[simp ↓] theorem I_dPar {js : List Nat} : WI (dPar js dr s) (K := ⟨P⟩) = WI (dr s) (K := ⟨(fun vs s1 => match setP js vs s1 with | some s2 => P .nx s2 | none => False)⟩) := W_dPar
theorem D_dAsgX {js : List Nat} {dx : DX} : WD (dAsgX js dx s) P = WD (dx s) (fun vs s1 => match setX js vs s1 with | some s2 => P .nx s2 | none => False) := by
  show WD ((dx s).bind _) P = _
  rw [D_bind]
  congr 1
  funext v s1
  cases setX js v s1 <;> rfl
theorem W_dAsgX {js : List Nat} {dx : DX} : W (dAsgX js dx s) P = W (dx s) (fun vs s1 => match setX js vs s1 with | some s2 => P .nx s2 | none => False) := by
  simp only [W, WI_iff]
  exact D_dAsgX
@[simp ↓] theorem I_dAsgX {js : List Nat} {dx : DX} : WI (dAsgX js dx s) (K := ⟨P⟩) = WI (dx s) (K := ⟨(fun vs s1 => match setX js vs s1 with | some s2 => P .nx s2 | none => False)⟩) := W_dAsgX
theorem D_xVal {dx : DX} {B : List SV → S → Prop} : WD (xVal da dx s) B = WD (da s) (fun v s1 => WD (dx s1) fun vs s2 => B (.val v :: vs) s2) := by
  show WD ((da s).bind _) B = _
  rw [D_bind]
  congr 1
  funext x s1
  exact D_bind
theorem W_xVal {dx : DX} {B : List SV → S → Prop} : W (xVal da dx s) B = W (da s) (fun v s1 => W (dx s1) fun vs s2 => B (.val v :: vs) s2) := by
  simp only [W, WI_iff]
  exact D_xVal
@[simp ↓] theorem I_xVal {dx : DX} {B : List SV → S → Prop} : WI (xVal da dx s) (K := ⟨B⟩) = WI (da s) (K := ⟨(fun v s1 => WI (dx s1) (K := ⟨fun vs s2 => B (.val v :: vs) s2⟩))⟩) := W_xVal
theorem D_xOwn {dx : DX} {B : List SV → S → Prop} : WD (xOwn dl dx s) B = WD (dl s) (fun v s1 => WD (dx s1) fun vs s2 => B (.own v :: vs) s2) := by
  show WD ((dl s).bind _) B = _
  rw [D_bind]
  congr 1
  funext x s1
  exact D_bind
theorem W_xOwn {dx : DX} {B : List SV → S → Prop} : W (xOwn dl dx s) B = W (dl s) (fun v s1 => W (dx s1) fun vs s2 => B (.own v :: vs) s2) := by
  simp only [W, WI_iff]
  exact D_xOwn
@[simp ↓] theorem I_xOwn {dx : DX} {B : List SV → S → Prop} : WI (xOwn dl dx s) (K := ⟨B⟩) = WI (dl s) (K := ⟨(fun v s1 => WI (dx s1) (K := ⟨fun vs s2 => B (.own v :: vs) s2⟩))⟩) := W_xOwn
theorem D_tgt {b : Type} {r : R S Unit} {k : S → R S b} {B : b → S → Prop} : WD (tgt r k) B = WD r (fun _ s1 => WD (k s1) B) := by
  cases r <;> rfl
theorem W_tgt {b : Type} {r : R S Unit} {k : S → R S b} {B : b → S → Prop} : W (tgt r k) B = W r (fun _ s1 => W (k s1) B) := by
  simp only [W, WI_iff]
  exact D_tgt
@[simp ↓] theorem I_tgt {b : Type} {r : R S Unit} {k : S → R S b} {B : b → S → Prop} : WI (tgt r k) (K := ⟨B⟩) = WI r (K := ⟨(fun _ s1 => WI (k s1) (K := ⟨B⟩))⟩) := W_tgt
theorem D_dAsg : WD (dAsg da tg s) P = WD (da s) (fun v s1 => WD (tg v s1) fun _ s2 => P .nx s2) := by
  show WD ((da s).bind _) P = _
  rw [D_bind]
  congr 1
  funext v s1
  exact D_tgt
theorem W_dAsg : W (dAsg da tg s) P = W (da s) (fun v s1 => W (tg v s1) fun _ s2 => P .nx s2) := by
  simp only [W, WI_iff]
  exact D_dAsg
@[simp ↓] theorem I_dAsg : WI (dAsg da tg s) (K := ⟨P⟩) = WI (da s) (K := ⟨(fun v s1 => WI (tg v s1) (K := ⟨fun _ s2 => P .nx s2⟩))⟩) := W_dAsg
theorem D_dFor : WD (dFor di tg ds s) P = WD (di s) (fun xs s1 => WD (forL tg ds xs s1) P) := D_bind
theorem W_dFor : W (dFor di tg ds s) P = W (di s) (fun xs s1 => W (forL tg ds xs s1) P) := by
  simp only [W, WI_iff]
  exact D_dFor
@[simp ↓] theorem I_dFor : WI (dFor di tg ds s) (K := ⟨P⟩) = WI (di s) (K := ⟨(fun xs s1 => WI (forL tg ds xs s1) (K := ⟨P⟩))⟩) := W_dFor
theorem D_dFrz {is : List Nat} : WD (dFrz is ds s) P = WD (ds (frozS is s)) P := rfl
theorem W_dFrz {is : List Nat} : W (dFrz is ds s) P = W (ds (frozS is s)) P := by
  simp only [W, WI_iff]
  exact D_dFrz
@[simp ↓] theorem I_dFrz {is : List Nat} : WI (dFrz is ds s) (K := ⟨P⟩) = WI (ds (frozS is s)) (K := ⟨P⟩) := W_dFrz
theorem D_dOwn : WD (dOwn i dl s) P = WD (dl s) (fun xs s1 => P .nx (setO i xs s1)) := D_bind
theorem W_dOwn : W (dOwn i dl s) P = W (dl s) (fun xs s1 => P .nx (setO i xs s1)) := by
  simp only [W, WI_iff]
  exact D_dOwn
@[simp ↓] theorem I_dOwn : WI (dOwn i dl s) (K := ⟨P⟩) = WI (dl s) (K := ⟨(fun xs s1 => P .nx (setO i xs s1))⟩) := W_dOwn
theorem D_dNewF : WD (dNewF dl s) Q = WD (dl s) (fun xs s1 => Q (.ptr s1.mu.length) ⟨s1.env, s1.mu ++ [.lst xs]⟩) := D_bind
theorem W_dNewF : W (dNewF dl s) Q = W (dl s) (fun xs s1 => Q (.ptr s1.mu.length) ⟨s1.env, s1.mu ++ [.lst xs]⟩) := by
  simp only [W, WI_iff]
  exact D_dNewF
@[simp ↓] theorem I_dNewF : WI (dNewF dl s) (K := ⟨Q⟩) = WI (dl s) (K := ⟨(fun xs s1 => Q (.ptr s1.mu.length) ⟨s1.env, s1.mu ++ [.lst xs]⟩)⟩) := W_dNewF
theorem D_dBor {is : List Nat} : WD (dBor is da s) Q = (ownIn is s.env = true ∧ WD (da (frozS is s)) (fun v s1 => flatP v = true ∧ flatMs s1.mu = true ∧ Q v ⟨s.env, s1.mu⟩)) := by
  show WD (if ownIn is s.env = true then _ else _) Q = _
  by_cases h : ownIn is s.env = true
  · rw [if_pos h]
    cases da (frozS is s) with
    | ok v t =>
      show WD (if flatP v = true ∧ flatMs t.mu = true then _ else _) Q = _
      by_cases h2 : flatP v = true ∧ flatMs t.mu = true
      · rw [if_pos h2]; simp [h, h2]
      · rw [if_neg h2]
        simp only [D_bad, D_ok, h, true_and, eq_iff_iff, false_iff]
        exact fun z => h2 ⟨z.1, z.2.1⟩
    | _ => simp
  · rw [if_neg h]; simp [h]
theorem W_dBor {is : List Nat} : W (dBor is da s) Q = (ownIn is s.env = true ∧ W (da (frozS is s)) (fun v s1 => flatP v = true ∧ flatMs s1.mu = true ∧ Q v ⟨s.env, s1.mu⟩)) := by
  simp only [W, WI_iff]
  exact D_dBor
@[simp ↓] theorem I_dBor {is : List Nat} : WI (dBor is da s) (K := ⟨Q⟩) = (ownIn is s.env = true ∧ WI (da (frozS is s)) (K := ⟨(fun v s1 => flatP v = true ∧ flatMs s1.mu = true ∧ Q v ⟨s.env, s1.mu⟩)⟩)) := W_dBor
theorem D_dBorT {is : List Nat} : WD (dBorT is ta s) T = (ownIn is s.env = true ∧ WD (ta (frozS is s)) (fun v s1 => flatMs s1.mu = true ∧ T v ⟨s.env, s1.mu⟩)) := by
  show WD (if ownIn is s.env = true then _ else _) T = _
  by_cases h : ownIn is s.env = true
  · rw [if_pos h]
    cases ta (frozS is s) with
    | ok v t =>
      show WD (if flatMs t.mu = true then _ else _) T = _
      by_cases h2 : flatMs t.mu = true
      · rw [if_pos h2]; simp [h, h2]
      · rw [if_neg h2]
        simp only [D_bad, D_ok, h, true_and, eq_iff_iff, false_iff]
        exact fun z => h2 z.1
    | _ => simp
  · rw [if_neg h]; simp [h]
theorem W_dBorT {is : List Nat} : W (dBorT is ta s) T = (ownIn is s.env = true ∧ W (ta (frozS is s)) (fun v s1 => flatMs s1.mu = true ∧ T v ⟨s.env, s1.mu⟩)) := by
  simp only [W, WI_iff]
  exact D_dBorT
@[simp ↓] theorem I_dBorT {is : List Nat} : WI (dBorT is ta s) (K := ⟨T⟩) = (ownIn is s.env = true ∧ WI (ta (frozS is s)) (K := ⟨(fun v s1 => flatMs s1.mu = true ∧ T v ⟨s.env, s1.mu⟩)⟩)) := W_dBorT
theorem D_dApp {Q : PV → S → Prop} : WD (dApp i da s) Q = ((lstAt i s).isSome = true ∧ WD (da s) (fun v s1 => match lstAt i s1 with | some (xs, k) => xs.length < 16777216 ∧ Q .non (k (xs ++ [v])) | none => False)) := by
  show WD (match lstAt i s with | some _ => _ | none => _) Q = _
  cases e : lstAt i s with
  | none => simp
  | some z =>
    rw [D_bind]
    simp only [Option.isSome_some, true_and]
    congr 1
    funext v s1
    cases lstAt i s1 with
    | none => rfl
    | some y =>
      obtain ⟨xs, k⟩ := y
      show WD (if xs.length < 16777216 then _ else _) Q = _
      by_cases h : xs.length < 16777216 <;> simp [h]
theorem W_dApp {Q : PV → S → Prop} : W (dApp i da s) Q = ((lstAt i s).isSome = true ∧ W (da s) (fun v s1 => match lstAt i s1 with | some (xs, k) => xs.length < 16777216 ∧ Q .non (k (xs ++ [v])) | none => False)) := by
  simp only [W, WI_iff]
  exact D_dApp
@[simp ↓] theorem I_dApp {Q : PV → S → Prop} : WI (dApp i da s) (K := ⟨Q⟩) = ((lstAt i s).isSome = true ∧ WI (da s) (K := ⟨(fun v s1 => match lstAt i s1 with | some (xs, k) => xs.length < 16777216 ∧ Q .non (k (xs ++ [v])) | none => False)⟩)) := W_dApp
theorem D_dSlice {lo hi : DO} : WD (dSlice da lo hi s) Q = WD (da s) (fun v s1 => WD (lo s1) fun a s2 => WD (hi s2) fun b s3 => WD (fCut v a b s3) Q) := by
  show WD ((da s).bind _) Q = _
  rw [D_bind]
  congr 1
  funext x s1
  rw [D_bind]
  congr 1
  funext y s2
  exact D_bind
theorem W_dSlice {lo hi : DO} : W (dSlice da lo hi s) Q = W (da s) (fun v s1 => W (lo s1) fun a s2 => W (hi s2) fun b s3 => W (fCut v a b s3) Q) := by
  simp only [W, WI_iff]
  exact D_dSlice
@[simp ↓] theorem I_dSlice {lo hi : DO} : WI (dSlice da lo hi s) (K := ⟨Q⟩) = WI (da s) (K := ⟨(fun v s1 => WI (lo s1) (K := ⟨fun a s2 => WI (hi s2) (K := ⟨fun b s3 => WI (fCut v a b s3) (K := ⟨Q⟩)⟩)⟩))⟩) := W_dSlice
theorem D_dSome {B : Option Int → S → Prop} : WD (dSome da s) B = WD (da s) (fun v s1 => match v with | .int i => B (some i) s1 | _ => False) := by
  show WD ((da s).bind _) B = _
  rw [D_bind]
  congr 1
  funext v s1
  cases v <;> rfl
theorem W_dSome {B : Option Int → S → Prop} : W (dSome da s) B = W (da s) (fun v s1 => match v with | .int i => B (some i) s1 | _ => False) := by
  simp only [W, WI_iff]
  exact D_dSome
@[simp ↓] theorem I_dSome {B : Option Int → S → Prop} : WI (dSome da s) (K := ⟨B⟩) = WI (da s) (K := ⟨(fun v s1 => match v with | .int i => B (some i) s1 | _ => False)⟩) := W_dSome
theorem D_dComp {B : List PV → S → Prop} {vs : List Nat} : WD (dComp di tg ta da vs s) B = WD (di s) (fun xs s1 => WD (compL tg ta da vs xs [] (wipeS vs s1)) B) := D_bind
theorem W_dComp {B : List PV → S → Prop} {vs : List Nat} : W (dComp di tg ta da vs s) B = W (di s) (fun xs s1 => W (compL tg ta da vs xs [] (wipeS vs s1)) B) := by
  simp only [W, WI_iff]
  exact D_dComp
@[simp ↓] theorem I_dComp {B : List PV → S → Prop} {vs : List Nat} : WI (dComp di tg ta da vs s) (K := ⟨B⟩) = WI (di s) (K := ⟨(fun xs s1 => WI (compL tg ta da vs xs [] (wipeS vs s1)) (K := ⟨B⟩))⟩) := W_dComp
theorem D_dMethR : WD (dMethR fn da dr s) Q = WD (da s) (fun p s1 => match p with | .rat q => WD (dr s1) (fun xs s2 => WD (fn (.rat q :: xs) s2) Q) | _ => False) := by
  show WD ((da s).bind _) Q = _
  rw [D_bind]
  congr 1
  funext p s1
  cases p <;> first | rfl | exact D_bind
theorem W_dMethR : W (dMethR fn da dr s) Q = W (da s) (fun p s1 => match p with | .rat q => W (dr s1) (fun xs s2 => W (fn (.rat q :: xs) s2) Q) | _ => False) := by
  simp only [W, WI_iff]
  exact D_dMethR
@[simp ↓] theorem I_dMethR : WI (dMethR fn da dr s) (K := ⟨Q⟩) = WI (da s) (K := ⟨(fun p s1 => match p with | .rat q => WI (dr s1) (K := ⟨(fun xs s2 => WI (fn (.rat q :: xs) s2) (K := ⟨Q⟩))⟩) | _ => False)⟩) := W_dMethR
theorem D_iSeq {B : List PV → S → Prop} : WD (iSeq da s) B = WD (da s) (fun v s1 => match v with | .lst xs => B xs s1 | .tup xs => B xs s1 | .frz xs => B xs s1 | _ => False) := by
  show WD ((da s).bind _) B = _
  rw [D_bind]
  congr 1
  funext v s1
  cases v <;> rfl
theorem W_iSeq {B : List PV → S → Prop} : W (iSeq da s) B = W (da s) (fun v s1 => match v with | .lst xs => B xs s1 | .tup xs => B xs s1 | .frz xs => B xs s1 | _ => False) := by
  simp only [W, WI_iff]
  exact D_iSeq
@[simp ↓] theorem I_iSeq {B : List PV → S → Prop} : WI (iSeq da s) (K := ⟨B⟩) = WI (da s) (K := ⟨(fun v s1 => match v with | .lst xs => B xs s1 | .tup xs => B xs s1 | .frz xs => B xs s1 | _ => False)⟩) := W_iSeq
theorem D_iRange1 {B : List PV → S → Prop} : WD (iRange1 dr s) B = WD (dr s) (fun vs s1 => match vs with | [.int j] => (-(2 ^ 62) ≤ j ∧ j < 2 ^ 62) ∧ B (rangeP 0 j.toNat) s1 | _ => False) := by
  show WD ((dr s).bind _) B = _
  rw [D_bind]
  congr 1
  funext vs s1
  split
  · rename_i j
    by_cases h : -(2 ^ 62) ≤ j ∧ j < 2 ^ 62
    · rw [if_pos h]; simp only [h, true_and, D_ok, and_self]
    · rw [if_neg h]; simp only [h, false_and, D_bad]
  · first | (split <;> simp_all) | simp_all | simp
theorem W_iRange1 {B : List PV → S → Prop} : W (iRange1 dr s) B = W (dr s) (fun vs s1 => match vs with | [.int j] => (-(2 ^ 62) ≤ j ∧ j < 2 ^ 62) ∧ B (rangeP 0 j.toNat) s1 | _ => False) := by
  simp only [W, WI_iff]
  exact D_iRange1
@[simp ↓] theorem I_iRange1 {B : List PV → S → Prop} : WI (iRange1 dr s) (K := ⟨B⟩) = WI (dr s) (K := ⟨(fun vs s1 => match vs with | [.int j] => (-(2 ^ 62) ≤ j ∧ j < 2 ^ 62) ∧ B (rangeP 0 j.toNat) s1 | _ => False)⟩) := W_iRange1
theorem D_iRange2 {B : List PV → S → Prop} : WD (iRange2 dr s) B = WD (dr s) (fun vs s1 => match vs with | [.int i, .int j] => (-(2 ^ 62) ≤ i ∧ i < 2 ^ 62 ∧ -(2 ^ 62) ≤ j ∧ j < 2 ^ 62) ∧ B (rangeP i (j - i).toNat) s1 | _ => False) := by
  show WD ((dr s).bind _) B = _
  rw [D_bind]
  congr 1
  funext vs s1
  split
  · rename_i i j
    by_cases h : -(2 ^ 62) ≤ i ∧ i < 2 ^ 62 ∧ -(2 ^ 62) ≤ j ∧ j < 2 ^ 62
    · rw [if_pos h]; simp only [h, true_and, D_ok, and_self]
    · rw [if_neg h]; simp only [h, false_and, D_bad]
  · first | (split <;> simp_all) | simp_all | simp
theorem W_iRange2 {B : List PV → S → Prop} : W (iRange2 dr s) B = W (dr s) (fun vs s1 => match vs with | [.int i, .int j] => (-(2 ^ 62) ≤ i ∧ i < 2 ^ 62 ∧ -(2 ^ 62) ≤ j ∧ j < 2 ^ 62) ∧ B (rangeP i (j - i).toNat) s1 | _ => False) := by
  simp only [W, WI_iff]
  exact D_iRange2
@[simp ↓] theorem I_iRange2 {B : List PV → S → Prop} : WI (iRange2 dr s) (K := ⟨B⟩) = WI (dr s) (K := ⟨(fun vs s1 => match vs with | [.int i, .int j] => (-(2 ^ 62) ≤ i ∧ i < 2 ^ 62 ∧ -(2 ^ 62) ≤ j ∧ j < 2 ^ 62) ∧ B (rangeP i (j - i).toNat) s1 | _ => False)⟩) := W_iRange2
theorem D_iEnumQ {B : List PV → S → Prop} : WD (iEnumQ dr s) B = WD (dr s) (fun vs s1 => match vs with | [.lst xs] => B (enumP xs) s1 | [.tup xs] => B (enumP xs) s1 | _ => False) := by
  show WD ((dr s).bind _) B = _
  rw [D_bind]
  congr 1
  funext vs s1
  split <;> simp_all
theorem W_iEnumQ {B : List PV → S → Prop} : W (iEnumQ dr s) B = W (dr s) (fun vs s1 => match vs with | [.lst xs] => B (enumP xs) s1 | [.tup xs] => B (enumP xs) s1 | _ => False) := by
  simp only [W, WI_iff]
  exact D_iEnumQ
@[simp ↓] theorem I_iEnumQ {B : List PV → S → Prop} : WI (iEnumQ dr s) (K := ⟨B⟩) = WI (dr s) (K := ⟨(fun vs s1 => match vs with | [.lst xs] => B (enumP xs) s1 | [.tup xs] => B (enumP xs) s1 | _ => False)⟩) := W_iEnumQ
theorem D_iZip {B : List PV → S → Prop} : WD (iZip dr s) B = WD (dr s) (fun vs s1 => match vs with | [.lst xs, .lst ys] => B (zipP xs ys) s1 | [.tup xs, .tup ys] => B (zipP xs ys) s1 | _ => False) := by
  show WD ((dr s).bind _) B = _
  rw [D_bind]
  congr 1
  funext vs s1
  split <;> simp_all
theorem W_iZip {B : List PV → S → Prop} : W (iZip dr s) B = W (dr s) (fun vs s1 => match vs with | [.lst xs, .lst ys] => B (zipP xs ys) s1 | [.tup xs, .tup ys] => B (zipP xs ys) s1 | _ => False) := by
  simp only [W, WI_iff]
  exact D_iZip
@[simp ↓] theorem I_iZip {B : List PV → S → Prop} : WI (iZip dr s) (K := ⟨B⟩) = WI (dr s) (K := ⟨(fun vs s1 => match vs with | [.lst xs, .lst ys] => B (zipP xs ys) s1 | [.tup xs, .tup ys] => B (zipP xs ys) s1 | _ => False)⟩) := W_iZip
theorem D_dListF {B : List PV → S → Prop} : WD (dListF da s) B = WD (da s) (fun p s1 => match asL s1.mu p with | some xs => B xs s1 | none => False) := by
  show WD ((da s).bind _) B = _
  rw [D_bind]
  congr 1
  funext v s1
  cases h : asL s1.mu v <;> simp [h]
theorem W_dListF {B : List PV → S → Prop} : W (dListF da s) B = W (da s) (fun p s1 => match asL s1.mu p with | some xs => B xs s1 | none => False) := by
  simp only [W, WI_iff]
  exact D_dListF
@[simp ↓] theorem I_dListF {B : List PV → S → Prop} : WI (dListF da s) (K := ⟨B⟩) = WI (da s) (K := ⟨(fun p s1 => match asL s1.mu p with | some xs => B xs s1 | none => False)⟩) := W_dListF
theorem D_dWhile {fuel : S → Nat} : WD (dWhile fuel ta ds s) P = WD (whileL ta ds (fuel s) s) P := rfl
theorem W_dWhile {fuel : S → Nat} : W (dWhile fuel ta ds s) P = W (whileL ta ds (fuel s) s) P := by
  simp only [W, WI_iff]
  exact D_dWhile
@[simp ↓] theorem I_dWhile {fuel : S → Nat} : WI (dWhile fuel ta ds s) (K := ⟨P⟩) = WI (whileL ta ds (fuel s) s) (K := ⟨P⟩) := W_dWhile
theorem D_runBody {d : DS} {ps : List PV} {mu : List MO} {B : PV → List MO → Prop} : WD (runBody n d ps mu) B = WD (d ⟨ps.map (fun p => some (.val p)) ++ List.replicate (n - ps.length) none, mu⟩) (fun f s => match f with | .rt v => B v s.mu | .nx => B .non s.mu | _ => False) := by
  unfold runBody
  cases d ⟨ps.map (fun p => some (.val p)) ++ List.replicate (n - ps.length) none, mu⟩ with
  | ok f t => cases f <;> rfl
  | _ => rfl
theorem W_runBody {d : DS} {ps : List PV} {mu : List MO} {B : PV → List MO → Prop} : W (runBody n d ps mu) B = W (d ⟨ps.map (fun p => some (.val p)) ++ List.replicate (n - ps.length) none, mu⟩) (fun f s => match f with | .rt v => B v s.mu | .nx => B .non s.mu | _ => False) := by
  simp only [W, WI_iff]
  exact D_runBody
theorem D_forL (I : List PV → S → Prop) {xs : List PV} (h0 : I xs s) (hs : ∀ x ys s, I (x :: ys) s → WD (tgt (tg x s) ds) (fun f s' => match f with | .nx => I ys s' | .ct => I ys s' | .bk => P .nx s' | .rt v => P (.rt v) s')) (he : ∀ s, I [] s → P .nx s) : WD (forL tg ds xs s) P := by
  induction xs generalizing s with
  | nil => exact he s h0
  | cons x ys ih =>
    have h := hs x ys s h0
    unfold forL
    rw [D_tgt] at h ⊢
    refine h.mono fun _ s1 h1 => ?_
    rw [D_bind]
    refine h1.mono fun f s2 h2 => ?_
    cases f with
    | nx => exact ih h2
    | ct => exact ih h2
    | bk => exact h2
    | rt v => exact h2
theorem W_forL (I : List PV → S → Prop) {xs : List PV} (h0 : I xs s) (hs : ∀ x ys s, I (x :: ys) s → W (tgt (tg x s) ds) (fun f s' => match f with | .nx => I ys s' | .ct => I ys s' | .bk => P .nx s' | .rt v => P (.rt v) s')) (he : ∀ s, I [] s → P .nx s) : W (forL tg ds xs s) P := by
  simp only [W, WI_iff] at hs ⊢
  exact D_forL I h0 hs he
theorem D_compL {B : List PV → S → Prop} {vs : List Nat} (I : List PV → List PV → S → Prop) {xs acc : List PV} (h0 : I xs acc s)
    (hs : ∀ x ys acc s, I (x :: ys) acc s → WD (tgt (tg x s) ta) (fun b s2 => if b = true then WD (da s2) (fun y s3 => acc.length < 16777216 ∧ I ys (acc ++ [y]) (wipeS vs s3)) else I ys acc (wipeS vs s2))) (he : ∀ acc s, I [] acc s → B acc s) : WD (compL tg ta da vs xs acc s) B := by
  induction xs generalizing s acc with
  | nil => exact he acc s h0
  | cons x ys ih =>
    have h := hs x ys acc s h0
    unfold compL
    rw [D_tgt] at h ⊢
    refine h.mono fun _ s1 h1 => ?_
    cases e : ta s1 with
    | ok b s2 =>
      rw [e] at h1
      show WD (match b with | true => _ | false => _) B
      cases b with
      | true =>
        rw [D_ok, if_pos rfl] at h1
        show WD (okB (da s2) _) B
        cases e2 : da s2 with
        | ok y s3 =>
          rw [e2] at h1
          show WD (if acc.length < 16777216 then _ else _) B
          rw [if_pos h1.1]
          exact ih h1.2
        | _ => rw [e2] at h1; exact h1.elim
      | false =>
        rw [D_ok, if_neg (by decide)] at h1
        exact ih h1
    | _ => rw [e] at h1; exact h1.elim
theorem W_compL {B : List PV → S → Prop} {vs : List Nat} (I : List PV → List PV → S → Prop) {xs acc : List PV} (h0 : I xs acc s)
    (hs : ∀ x ys acc s, I (x :: ys) acc s → W (tgt (tg x s) ta) (fun b s2 => if b = true then W (da s2) (fun y s3 => acc.length < 16777216 ∧ I ys (acc ++ [y]) (wipeS vs s3)) else I ys acc (wipeS vs s2))) (he : ∀ acc s, I [] acc s → B acc s) : W (compL tg ta da vs xs acc s) B := by
  simp only [W, WI_iff] at hs ⊢
  exact D_compL I h0 hs he
/-- a comprehension that maps, the state the same behind each element -/
theorem D_compMap {α : Type} {B : List PV → S → Prop} {vs : List Nat} (l : List α) (g f : α → PV) (hl : l.length ≤ 16777216) (h : ∀ a ∈ l, WD (tg (g a) s) fun _ s1 => WD (da s1) fun y s3 => y = f a ∧ wipeS vs s3 = s) (hB : B (l.map f) s) : WD (compL tg dYes da vs (l.map g) [] s) B := by
  refine D_compL (I := fun xs acc s' => s' = s ∧ ∃ l1 l2, l = l1 ++ l2 ∧ xs = l2.map g ∧ acc = l1.map f) ⟨rfl, [], l, rfl, rfl, rfl⟩ ?_ ?_
  · rintro x ys acc s' ⟨rfl, l1, l2, e1, e2, rfl⟩
    cases l2 with
    | nil => cases e2
    | cons a l2 =>
      cases e2
      have h1 := h a (by rw [e1]; simp)
      rw [D_tgt]
      refine h1.mono fun _ s1 h2 => ?_
      show WD (R.ok true s1) _
      rw [D_ok, if_pos rfl]
      refine h2.mono fun y s3 h3 => ?_
      rw [h3.1]
      refine ⟨by rw [List.length_map]; rw [e1, List.length_append, List.length_cons] at hl; omega, h3.2, l1 ++ [a], l2, by rw [e1]; simp, rfl, by simp⟩
  · rintro acc s' ⟨rfl, l1, l2, e1, e2, rfl⟩
    cases l2 with
    | nil => rw [e1, List.append_nil] at hB; exact hB
    | cons a l2 => cases e2
theorem W_compMap {α : Type} {B : List PV → S → Prop} {vs : List Nat} (l : List α) (g f : α → PV) (hl : l.length ≤ 16777216) (h : ∀ a ∈ l, W (tg (g a) s) fun _ s1 => W (da s1) fun y s3 => y = f a ∧ wipeS vs s3 = s) (hB : B (l.map f) s) : W (compL tg dYes da vs (l.map g) [] s) B := by
  simp only [W, WI_iff] at h ⊢
  exact D_compMap l g f hl h hB
theorem D_whileL (I : Nat → S → Prop) {n : Nat} (h0 : I n s) (hs : ∀ n s, I (n + 1) s → WD (ta s) (fun k s1 => if k = true then WD (ds s1) (fun f s2 => match f with | .nx => I n s2 | .ct => I n s2 | .bk => P .nx s2 | .rt v => P (.rt v) s2) else P .nx s1)) (hz : ∀ s, ¬ I 0 s) : WD (whileL ta ds n s) P := by
  induction n generalizing s with
  | zero => exact (hz s h0).elim
  | succ n ih =>
    have h := hs n s h0
    unfold whileL
    rw [D_bind]
    refine h.mono fun k s1 h1 => ?_
    cases k with
    | false => rw [if_neg (by decide)] at h1; exact h1
    | true =>
      rw [if_pos rfl] at h1
      show WD ((ds s1).bind _) P
      rw [D_bind]
      refine h1.mono fun f s2 h2 => ?_
      cases f with
      | nx => exact ih h2
      | ct => exact ih h2
      | bk => exact h2
      | rt v => exact h2
theorem W_whileL (I : Nat → S → Prop) {n : Nat} (h0 : I n s) (hs : ∀ n s, I (n + 1) s → W (ta s) (fun k s1 => if k = true then W (ds s1) (fun f s2 => match f with | .nx => I n s2 | .ct => I n s2 | .bk => P .nx s2 | .rt v => P (.rt v) s2) else P .nx s1)) (hz : ∀ s, ¬ I 0 s) : W (whileL ta ds n s) P := by
  simp only [W, WI_iff] at hs ⊢
  exact D_whileL I h0 hs hz
end
end L3
namespace LD
open PySem L3
/-- slots: _law_one, _law_other -/
def d_w_minus : DS := (dRet (dFnS F_w_low (dCons (dBin gSub (dBin gMul (dBin fIx (dVar 0) (dC (.int 0))) (dBin fIx (dVar 1) (dC (.int 1)))) (dBin gMul (dBin fIx (dVar 1) (dC (.int 0))) (dBin fIx (dVar 0) (dC (.int 1))))) (dCons (dBin gMul (dBin fIx (dVar 0) (dC (.int 1))) (dBin fIx (dVar 1) (dC (.int 1)))) dNil))))
def F_w_minus : DF := runBody 2 d_w_minus
/-- slots: _law_one, _law_other -/
def d_w_times : DS := (dRet (dFnS F_w_low (dCons (dBin gMul (dBin fIx (dVar 0) (dC (.int 0))) (dBin fIx (dVar 1) (dC (.int 0)))) (dCons (dBin gMul (dBin fIx (dVar 0) (dC (.int 1))) (dBin fIx (dVar 1) (dC (.int 1)))) dNil))))
def F_w_times : DF := runBody 2 d_w_times
/-- slots: self, other, far -/
def d_Ratio___eq__ : DS := (dSeq (dIfS (dNotT (dTru (dFnS F_is_number (dCons (dVar 1) dNil)))) (dRet (dC (.bl false))) dSkip) (dSeq (dSet 2 (dFnS F_ratio_of (dCons (dVar 1) dNil))) (dRet (dAnd (dBin (gEq false) (dUn fTop (dVar 0)) (dUn fTop (dVar 2))) (dBin (gEq false) (dUn fBot (dVar 0)) (dUn fBot (dVar 2)))))))
def F_Ratio___eq__ : DF := runBody 3 d_Ratio___eq__
/-- slots: self, other, far -/
def d_Ratio___sub__ : DS := (dSeq (dSet 2 (dFnS F_ratio_of (dCons (dVar 1) dNil))) (dRet (dFn (fMakeR okR) (dCons (dBin gSub (dBin gMul (dUn fTop (dVar 0)) (dUn fBot (dVar 2))) (dBin gMul (dUn fTop (dVar 2)) (dUn fBot (dVar 0)))) (dCons (dBin gMul (dUn fBot (dVar 0)) (dUn fBot (dVar 2))) dNil)))))
def F_Ratio___sub__ : DF := runBody 3 d_Ratio___sub__
/-- slots: self, other, far -/
def d_Ratio___mul__ : DS := (dSeq (dSet 2 (dFnS F_ratio_of (dCons (dVar 1) dNil))) (dRet (dFn (fMakeR okR) (dCons (dBin gMul (dUn fTop (dVar 0)) (dUn fTop (dVar 2))) (dCons (dBin gMul (dUn fBot (dVar 0)) (dUn fBot (dVar 2))) dNil)))))
def F_Ratio___mul__ : DF := runBody 3 d_Ratio___mul__
end LD
namespace LD
open PySem L3
end LD
namespace LD
open PySem L3
/-- slots: _law_one, _law_other -/
def d_w_below : DS := (dRet (dBin gLt (dBin gMul (dBin fIx (dVar 0) (dC (.int 0))) (dBin fIx (dVar 1) (dC (.int 1)))) (dBin gMul (dBin fIx (dVar 1) (dC (.int 0))) (dBin fIx (dVar 0) (dC (.int 1))))))
def F_w_below : DF := runBody 2 d_w_below
def b_w_sorted_1 : DS := (dSeq (dSet 3 (dFn fLen (dCons (dFr (dComp (iSeq (dVar 1)) (gN 4) (dNotT (dTru (dFnS F_w_below (dCons (dVar 2) (dCons (dVar 4) dNil))))) (dVar 4) [4])) dNil))) (dSet 1 (dBin gAdd (dBin gAdd (dSlice (dVar 1) dNone (dSome (dVar 3))) (dLst (dCons (dVar 2) dNil))) (dSlice (dVar 1) (dSome (dVar 3)) dNone))))
/-- slots: _law_some, _law_found, _law_one, _law_at, _law_other -/
def d_w_sorted : DS := (dSeq (dSet 1 (dLst dNil)) (dSeq (dFor (iSeq (dVar 0)) (gN 2) b_w_sorted_1) (dRet (dVar 1))))
def F_w_sorted : DF := runBody 5 d_w_sorted
def e_ordered_1 : DE := (dFn (fMakeR okR) (dCons (dVar 3) (dCons (dVar 2) dNil)))
/-- slots: values, integers, bottom, integer -/
def d_ordered : DS := (dSeq (dAsg (dFnS F_common (dCons (dVar 0) dNil)) (gT 2 (gCons (gN 1) (gCons (gN 2) gNil)))) (dRet (dFr (dComp (iSeq (dFn fSortI (dCons (dVar 1) dNil))) (gN 3) dYes e_ordered_1 [3]))))
def F_ordered : DF := runBody 4 d_ordered
end LD
namespace LD
open PySem L3
/-- slots: values, many -/
def d_median_of : DS := (dSeq (dSet 1 (dFn fLen (dCons (dVar 0) dNil))) (dRet (dFnS F_mean_of (dCons (dLst (dCons (dBin fIx (dVar 0) (dBin gFdiv (dBin gSub (dVar 1) (dC (.int 1))) (dC (.int 2)))) (dCons (dBin fIx (dVar 0) (dBin gFdiv (dVar 1) (dC (.int 2)))) dNil))) dNil))))
def F_median_of : DF := runBody 2 d_median_of
end LD
namespace LD
open PySem L3
end LD
namespace LD
open PySem L3
end LD
namespace LD
open PySem L3
end LD
set_option maxHeartbeats 2000000
namespace L3
open PySem PySem.Spec PyProof.Rows L2
def IsQ : Bool → Heap → Addr → Array Value → Prop
  | true, h, l, xs => h.IsTuple l xs
  | false, h, l, xs => h.IsList l xs
def IsQi : Bool → Heap → Addr → Addr → Nat → Prop
  | true, h, it, l, k => h.IsTupleIter it l k
  | false, h, it, l, k => h.IsListIter it l k
theorem IsQ.up {t : Bool} {h h' : Heap} {l : Addr} {xs : Array Value} (x : IsQ t h l xs) (e : ∀ o, h.get? l = some o → h'.get? l = some o) : IsQ t h' l xs := by
  cases t with
  | true => exact Heap.IsTuple.at x e
  | false => exact Heap.IsList.at x e
theorem IsQi.up {t : Bool} {h h' : Heap} {it l : Addr} {k : Nat} (x : IsQi t h it l k) (e : ∀ o, h.get? it = some o → h'.get? it = some o) : IsQi t h' it l k := by
  cases t with
  | true => exact Heap.IsTupleIter.at x e
  | false => exact Heap.IsListIter.at x e
theorem IsQi.obj {t : Bool} {h : Heap} {it l : Addr} {k : Nat} (x : IsQi t h it l k) : ∃ o, h.get? it = some o ∧ ∀ v, o.data ≠ .cell v := by
  cases t with
  | true =>
    obtain ⟨o, e, _, d⟩ := x
    exact ⟨o, e, fun v q => by rw [d] at q; cases q⟩
  | false =>
    obtain ⟨o, e, _, d⟩ := x
    exact ⟨o, e, fun v q => by rw [d] at q; cases q⟩
theorem IsQ.obj {t : Bool} {h : Heap} {l : Addr} {xs : Array Value} (x : IsQ t h l xs) : ∃ o, h.get? l = some o := by
  cases t with
  | true => exact ⟨_, x.choose_spec.1⟩
  | false => exact ⟨_, x.choose_spec.1⟩
end L3
set_option maxHeartbeats 2000000
namespace L3
open PySem PySem.Spec PyProof.Rows L2
end L3
set_option maxHeartbeats 2000000
namespace L3
open PySem PySem.Spec PyProof.Rows L2
/-- the items of a list or a tuple -/
@[simp] def seqP : PV → Option (List PV)
  | .lst xs => some xs | .tup xs => some xs | .frz xs => some xs
  | _ => none
@[simp] def iZipQ (d : DA) : DI := fun s => (d s).bind fun vs s1 => match vs with
  | [p, q] => (match seqP p, seqP q with
    | some xs, some ys => .ok (zipP xs ys) s1
    | _, _ => .bad)
  | _ => .bad
end L3
namespace LD
open PySem L3
end LD
set_option maxHeartbeats 2000000
namespace L3
open PySem PySem.Spec PyProof.Rows L2
def repS (x : Str) (n : Nat) : Str := ⟨(List.replicate n x.cps).foldl (· ++ ·) #[]⟩
@[simp] def fRepS : PV → PV → S → R S PV := fun p q s => match p, q with
  | .str x, .int k => if -1000 ≤ k ∧ k ≤ 1000 ∧ x.length ≤ 1000 then .ok (.str (repS x k.toNat)) s else .bad
  | _, _ => .bad
@[simp] def gMulS : PV → PV → S → R S PV := fun p q s => match p with
  | .str _ => fRepS p q s
  | _ => gMul p q s
section
variable {X : Cx} {g : Gx}
@[simp] def fIntT : List PV → S → R S PV := fun ps s => match ps with
  | [.str x] => if x.length ≤ 640 then (match intText? x with
    | some n => .ok (.int n) s
    | none => .bad) else .bad
  | _ => fIntB ps s
@[simp] def fStrI : List PV → S → R S PV := fun ps s => match ps with
  | [.int i] => if ib i ≤ 1900 then .ok (.str (Str.ofString (toString i))) s else .bad
  | _ => .bad
end
end L3
set_option maxHeartbeats 2000000
namespace L3
open PySem PySem.Spec PyProof.Rows L2
@[simp] def gTL (n : Nat) (t : DGs) : DG := fun v s => match v with
  | .lst xs => if xs.length = n then t xs s else .bad
  | _ => .bad
end L3
namespace LD
open PySem L3
end LD
namespace LD
open PySem L3
def e_w_kept_1 : DE := (dIf (dTru (dUn (fIsi bInt) (dVar 1))) (dVar 1) (dFnS F_w_taken (dCons (dVar 1) dNil)))
/-- slots: _law_given_here, _law_one -/
def d_w_kept : DS := (dRet (dFr (dComp (iSeq (dVar 0)) (gN 1) dYes e_w_kept_1 [1])))
def F_w_kept : DF := runBody 2 d_w_kept
end LD
set_option maxHeartbeats 1000000
namespace L3
open PySem PySem.Spec PyProof.Rows L2
end L3
set_option maxHeartbeats 1000000
namespace L3
open PySem PySem.Spec PyProof.Rows L2
@[simp] def gInK (neg : Bool) : PV → PV → S → R S PV := fun p q s => match q with
  | .dk ks xs => (match keyP p with
    | some k => .ok (.bl (xor neg (lookK k ks xs).isSome)) s
    | none => .bad)
  | _ => .bad
end L3
namespace LD
open PySem L3
/-- slots: _law_one, _law_two -/
def d_w_middle : DS := (dRet (dFnS F_w_times (dCons (dTup (dCons (dC (.int 1)) (dCons (dC (.int 2)) dNil))) (dCons (dFnS F_w_plus (dCons (dVar 0) (dCons (dVar 1) dNil))) dNil))))
def F_w_middle : DF := runBody 2 d_w_middle
end LD
namespace LD
open PySem L3
end LD
set_option maxHeartbeats 1000000
namespace L3
open PySem PySem.Spec PyProof.Rows L2
def downP (i : Int) (n : Nat) : List PV := (List.range n).map fun k => PV.int (i - (k : Nat))
def DnOk (i j : Int) : Prop := -(2 ^ 62) ≤ i ∧ i < 2 ^ 62 ∧ -(2 ^ 62) ≤ j ∧ j < 2 ^ 62 ∧ (i - j).toNat ≤ 2 ^ 24
instance (i j : Int) : Decidable (DnOk i j) := by unfold DnOk; infer_instance
@[simp] def dListDn (d : DA) : DL := fun s => (d s).bind fun ps s1 => match ps with
  | [.int i, .int j, .int c] => if c = -1 ∧ DnOk i j then .ok (downP i (i - j).toNat) s1 else .bad
  | _ => .bad
end L3
namespace LD
open PySem L3
end LD
set_option maxHeartbeats 1000000
namespace L3
open PySem PySem.Spec PyProof.Rows L2
def UpOk (j : Int) : Prop := -(2 ^ 62) ≤ j ∧ j < 2 ^ 62 ∧ j.toNat ≤ 2 ^ 24
instance (j : Int) : Decidable (UpOk j) := by unfold UpOk; infer_instance
@[simp] def dListUp (d : DA) : DL := fun s => (d s).bind fun ps s1 => match ps with
  | [.int j] => if UpOk j then .ok (rangeP 0 j.toNat) s1 else .bad
  | _ => .bad
end L3
set_option maxHeartbeats 1000000
namespace L3
open PySem PySem.Spec PyProof.Rows L2
def leP (a b : Int × Int) : Bool := decide (a.1 < b.1 ∨ (a.1 = b.1 ∧ a.2 ≤ b.2))
abbrev psort (l : List (Int × Int)) : List (Int × Int) := srt leP l
def prP (p : Int × Int) : PV := .tup [.int p.1, .int p.2]
def pairsP : List PV → Option (List (Int × Int))
  | [] => some []
  | .tup [.int i, .int j] :: r => (match pairsP r with | some ps => some ((i, j) :: ps) | none => none)
  | _ => none
@[simp] def fSortP : List PV → S → R S PV := fun ps s => match ps with
  | [.lst xs] => (match pairsP xs with
    | some is => .ok (.lst ((psort is).map prP)) s
    | none => .bad)
  | _ => .bad
end L3
namespace LD
open PySem L3
end LD
namespace LD
open PySem L3
end LD
set_option maxHeartbeats 1000000
namespace L3
open PySem PySem.Spec PyProof.Rows L2
instance keyIn (k : Key) (ks : List Key) : Decidable (k ∈ ks) := decidable_of_iff ((ks.any fun j => decide (j = k)) = true) (by rw [List.any_eq_true]; exact ⟨fun ⟨x, h, e⟩ => by rw [← of_decide_eq_true e]; exact h, fun h => ⟨k, h, decide_eq_true rfl⟩⟩)
def dicAt (mu : List MO) : PV → Option (Nat × List Key × List PV)
  | .ptr n => (match mu[n]? with
    | some (.dic ks xs) => some (n, ks, xs)
    | _ => none)
  | _ => none
@[simp] theorem dicAt_ptr {mu : List MO} {n : Nat} : dicAt mu (.ptr n) = (match mu[n]? with | some (.dic ks xs) => some (n, ks, xs) | _ => none) := rfl
def putKs (ks : List Key) (k : Key) : List Key := if k ∈ ks then ks else ks ++ [k]
def putXs {α : Type} : List Key → List α → Key → α → List α
  | j :: ks, x :: xs, k, v => if j = k then v :: xs else x :: putXs ks xs k v
  | _, _, _, v => [v]
@[simp] def dNewD : DE := fun s => .ok (.ptr s.mu.length) ⟨s.env, s.mu ++ [.dic [] []]⟩
@[simp] def dIxM (da db : DE) : DE := fun s => (da s).bind fun p s1 => (db s1).bind fun q s2 => match dicAt s2.mu p, keyP q with
  | some (_, ks, xs), some k => optR (lookK k ks xs) s2
  | _, _ => .bad
@[simp] def dGetM (da db dc : DE) : DE := fun s => (da s).bind fun p s1 => match dicAt s1.mu p with
  | some _ => (db s1).bind fun q s2 => (dc s2).bind fun z s3 => (match dicAt s3.mu p, keyP q with
    | some (_, ks, xs), some k => .ok ((lookK k ks xs).getD z) s3
    | _, _ => .bad)
  | none => .bad
@[simp] def dSetdM (da db dc : DE) : DE := fun s => (da s).bind fun p s1 => match dicAt s1.mu p with
  | some _ => (db s1).bind fun q s2 => (dc s2).bind fun z s3 => (match dicAt s3.mu p, keyP q with
    | some (n, ks, xs), some k => if ks.length < 16777216 then (match lookK k ks xs with
      | some x => .ok x s3
      | none => .ok z ⟨s3.env, s3.mu.set n (.dic (putKs ks k) (putXs ks xs k z))⟩) else .bad
    | _, _ => .bad)
  | none => .bad
@[simp] def dPutM (dv da db : DE) : DS := fun s => (dv s).bind fun v s1 => (da s1).bind fun p s2 => (db s2).bind fun q s3 => match dicAt s3.mu p, keyP q with
  | some (n, ks, xs), some k => if ks.length < 16777216 then .ok .nx ⟨s3.env, s3.mu.set n (.dic (putKs ks k) (putXs ks xs k v))⟩ else .bad
  | _, _ => .bad
end L3
namespace LD
open PySem L3
/-- slots: one, other -/
def d_is_less : DS := (dRet (dBin gLt (dBin gMul (dUn fTop (dVar 0)) (dUn fBot (dVar 1))) (dBin gMul (dUn fTop (dVar 1)) (dUn fBot (dVar 0)))))
def F_is_less : DF := runBody 2 d_is_less
end LD
namespace L3
open PySem PySem.Spec PyProof.Rows L2
/-- what a lambda computes -/
abbrev DB := List MO → R (List MO) PV
/-- the maker's names as the lambda sees them: own lists are not seen -/
@[simp] def capt : List (Option SV) → List (Option SV)
  | [] => []
  | some (.val v) :: r => some (.val v) :: capt r
  | _ :: r => none :: capt r
@[simp] def capV : List (Option SV) → List PV
  | [] => []
  | some (.val v) :: r => v :: capV r
  | _ :: r => .non :: capV r
def runLam (d : DE) (env : List (Option SV)) : DB := fun mu => match d ⟨capt env, mu⟩ with
  | .ok v s => .ok v s.mu
  | .exn e s => .exn e s.mu
  | .bad => .bad
/-- a(), a the parameter that holds the lambda -/
noncomputable def dAct (i : Nat) (t : Clo) (xs : List PV) (B : DB) : DE := fun s => match s.env[i]? with
  | some (some (.val (.clo t' xs'))) => (@ite _ (t' = t ∧ xs' = xs) (Classical.propDecidable _) (match B s.mu with
    | .ok v mu => .ok v ⟨s.env, mu⟩
    | .exn e mu => .exn e ⟨s.env, mu⟩
    | .bad => .bad) .bad)
  | _ => .bad
theorem capt_len : ∀ env, (capt env).length = env.length
  | [] => rfl
  | some (.val v) :: r => by simp [capt_len r]
  | some (.own v) :: r => by simp [capt_len r]
  | none :: r => by simp [capt_len r]
theorem capt_no : ∀ {env : List (Option SV)} {i : Nat} {xs : List PV}, (capt env)[i]? ≠ some (some (.own xs))
  | [], i, xs => by simp
  | some (.val v) :: r, 0, xs => by simp
  | some (.own v) :: r, 0, xs => by simp
  | none :: r, 0, xs => by simp
  | some (.val v) :: r, i + 1, xs => by simpa using capt_no (env := r) (i := i) (xs := xs)
  | some (.own v) :: r, i + 1, xs => by simpa using capt_no (env := r) (i := i) (xs := xs)
  | none :: r, i + 1, xs => by simpa using capt_no (env := r) (i := i) (xs := xs)
/-- the values that go with the lambda -/
def Caps (env : List (Option SV)) (σ : St) (vs : List V) : Prop := ∀ (i : Nat) v, (capt env)[i]? = some (some (.val v)) → ∃ u, σ[i]? = some (some u) ∧ (capV env)[i]? = some v ∧ vs[i]? = some u
theorem caps_of {K : PySem.W.Frag} {g : Gx} {l : Lc} : ∀ (env : List (Option SV)) (σ : St), env.length = σ.length → (∀ (i : Nat) v, env[i]? = some (some (.val v)) → ∃ u, σ[i]? = some (some u) ∧ RepG K g l v u) → ∃ vs, RepGL K g l (capV env) vs ∧ Caps env σ vs
  | [], σ, hl, h => ⟨[], rfl, fun i v e => by simp at e⟩
  | o :: r, [], hl, h => by simp at hl
  | o :: r, w :: σ, hl, h => by
    obtain ⟨vs, h1, h2⟩ := caps_of (K := K) (g := g) (l := l) r σ (by simpa using hl) fun i v e => by simpa using h (i + 1) v (by simpa using e)
    have rest : ∀ (p : PV) (u : V) (e : capV (o :: r) = p :: capV r) (e2 : ∃ q, capt (o :: r) = q :: capt r) (i : Nat) v, (capt (o :: r))[i + 1]? = some (some (.val v)) → ∃ u', (w :: σ)[i + 1]? = some (some u') ∧ (capV (o :: r))[i + 1]? = some v ∧ (u :: vs)[i + 1]? = some u' := fun p u e e2 i v q => by
      obtain ⟨q', e2⟩ := e2
      rw [e2] at q
      obtain ⟨u', a1, a2, a3⟩ := h2 i v (by simpa using q)
      exact ⟨u', by simpa using a1, by rw [e]; simpa using a2, by simpa using a3⟩
    match o with
    | some (.val v) =>
      obtain ⟨u, g1, g2⟩ := h 0 v rfl
      refine ⟨u :: vs, ⟨u, vs, rfl, g2, h1⟩, fun i x e => ?_⟩
      cases i with
      | zero =>
        simp at e
        exact ⟨u, g1, by rw [← e]; rfl, rfl⟩
      | succ i => exact rest v u rfl ⟨_, rfl⟩ i x e
    | some (.own xs) =>
      refine ⟨.non :: vs, ⟨.non, vs, rfl, rfl, h1⟩, fun i x e => ?_⟩
      cases i with
      | zero => simp at e
      | succ i => exact rest .non .non rfl ⟨_, rfl⟩ i x e
    | none =>
      refine ⟨.non :: vs, ⟨.non, vs, rfl, rfl, h1⟩, fun i x e => ?_⟩
      cases i with
      | zero => simp at e
      | succ i => exact rest .non .non rfl ⟨_, rfl⟩ i x e
/-- what the lambda's promise says of values that went with it -/
noncomputable def FLam (xs : List PV) (B : DB) : DF := fun ps mu => @ite _ (ps = xs) (Classical.propDecidable _) (B mu) .bad
/-- a frame's end: the shared objects and the tables alone -/
theorem Sok.fin {K : PySem.W.Frag} {g : Gx} {l l' : Lc} {s' : S} {σ' : St} (st : Step l l') (ok' : Sok K g l' s' σ') : Step l ⟨l'.al, fun a => a ∈ l'.al ∨ IsT K a, l'.H⟩ ∧ Fok K g.CR g.N ⟨l'.al, fun a => a ∈ l'.al ∨ IsT K a, l'.H⟩ s'.mu ∧
    (∀ v u, RepG K g l' v u → RepG K ⟨g.CR, g.N, W0⟩ ⟨l'.al, fun a => a ∈ l'.al ∨ IsT K a, l'.H⟩ v u) ∧ ∀ e cls dd, RepX K g l' e cls dd → RepX K ⟨g.CR, g.N, W0⟩ ⟨l'.al, fun a => a ∈ l'.al ∨ IsT K a, l'.H⟩ e cls dd := by
  have hL : ∀ a, ¬ g.L l' a → ¬ Gx.L ⟨g.CR, g.N, W0⟩ ⟨l'.al, fun a => a ∈ l'.al ∨ IsT K a, l'.H⟩ a := fun a n z => n (z.elim (fun z => .inl (ok'.inM z)) .inr)
  refine ⟨⟨st.pre, fun a h => st.new a (ok'.inM h), st.keep, st.dom⟩, Sok.toF ok' (fun a h => .inr h) (fun a h => ok'.mn a (ok'.inM h)), fun v u r => Rep.mono (fun _ _ h => h) (fun a o n e => ⟨e, hL a n⟩) v u r, fun e cls dd r => ?_⟩
  obtain ⟨C, ns, xs, us, h1, h2, h3, h4, h5⟩ := r
  refine ⟨C, ns, xs, us, h1, h2, h3, RepL.mono (fun _ _ h => h) (fun a o n e => ⟨e, hL a n⟩) _ _ h4, ?_⟩
  rcases h5 with h5 | ⟨d', h5, h6, h7⟩
  · exact .inl h5
  · exact .inr ⟨d', h5, hL _ h6, h7⟩
section
variable {X : Cx} {pins : List (Addr × Obj)} {σ : St} {H : Hp} {s : Shared}
/-- the lambda called -/
theorem lam_run {Cr : Addr} {params : Arguments} {body : Expr} {scope : Scope} {f c' : Addr} {pm ctv : Value} {k : Nat} {de : DE} {env : List (Option SV)} {vs : List V} (I : Inv X pins σ H s) (L : LamX.LamS X.env.scope scope)
    (hf : s.heap.get? f = some (PySem.W.kla_obj "<lambda>" (X.env.qual ++ "<lambda>") params body scope (cloFrom X.env.cells scope.names []) pm c' ctv)) (hfn : H f = none) (hfr : f ∉ frs X.stack)
    (hbind : bindArgs (PySem.W.kla_fn "<lambda>" (X.env.qual ++ "<lambda>") params body scope (cloFrom X.env.cells scope.names []) pm (.ref c') ctv) ⟨[], []⟩ = pure [])
    (hlen : env.length = σ.length) (hc : Caps env σ vs)
    (hbody : ∀ (A : Around) (outer : List Env) (s : Shared) (H : Hp) (E : XK) (Nn : Addr → Prop), Room k (A.deeper (LamX.lamEnv X scope s.heap.objs.size f c')) → JE (LamX.lamCx X A outer s H E scope f c') ⟨Cr, Nn, fun c dd _ H => E c dd H⟩ body de)
    {A : Around} {outer : List Env} {s1 : Shared} {HZ : Hp} {Q : VK} {E : XK} (hr : Room (k + 1) A) (e0 : Env0 X.prog X.w X.K X.mg X.base A outer s1 HZ) (un : Un (frs X.stack) [] H HZ s.heap s1.heap) (hco : HZ c' = some (LamX.CodeO c' (X.env.qual ++ "<lambda>")))
    (h : spJ X.K Cr (capV env).length (FLam (capV env) (runLam de env)) vs HZ Q E) : codeAny (model X.prog X.w) A (.call (.ref f) ⟨[], []⟩) (CR (L2.CX X.prog X.w) outer X.prog X.w HZ s1 Q E) s1 := by
  have of1 := un.keep f _ hf hfn hfr (fun z => nomatch z)
  obtain ⟨⟨oc, ws, tq, hoc, hdc, hvc⟩, _, _⟩ := e0.hok c' _ hco
  obtain ⟨N', l', qs, mu', rfl, fo, rq, hl, q⟩ := h
  by_cases eq : qs = capV env
  rotate_left
  · unfold FLam at q
    rw [if_neg eq] at q
    exact q.elim
  subst eq
  unfold FLam at q
  rw [if_pos rfl] at q
  have okL : Sok X.K ⟨Cr, N', fun c dd _ H => E c dd H⟩ l' ⟨capt env, mu'⟩ σ := by
    refine ⟨(capt_len env).trans hlen, fun i v e => ?_, fun i xs e => absurd e capt_no, fun i j xs ys a _ e => absurd e capt_no, fo.ok.mlen, fun n a m h1 h2 => ?_, fo.ok.nd, fo.ok.alM, fo.ok.there, fo.ok.mn, fun x hx => (fo.ok.tabs x hx).same rfl⟩
    · obtain ⟨u, h1, h2, h3⟩ := hc i v e
      obtain ⟨u', h4, h5⟩ := rq.get h2
      rw [h3] at h4
      cases h4
      exact ⟨u, h1, h5⟩
    · have q := fo.ok.mu n a m h1 h2
      cases m <;> exact q
  have runL : Run X.K ⟨Cr, N', fun c dd _ H => E c dd H⟩ (de ⟨capt env, mu'⟩) l' σ Q := by
    unfold runLam at q
    cases e1 : de ⟨capt env, mu'⟩ with
    | bad => rw [e1] at q; exact q
    | ok v t =>
      rw [e1] at q
      intro l2 u st ok2 r2
      obtain ⟨f1, f2, f3, _⟩ := ok2.fin st
      exact q ⟨l2.al, fun a => a ∈ l2.al ∨ IsT X.K a, l2.H⟩ u f1 f2 (f3 v u r2)
    | exn e t =>
      rw [e1] at q
      intro l2 cls dd st ok2 r2
      obtain ⟨f1, f2, _, f4⟩ := ok2.fin st
      exact q ⟨l2.al, fun a => a ∈ l2.al ∨ IsT X.K a, l2.H⟩ cls dd f1 f2 (f4 e cls dd r2)
  refine PySem.W.kla_callFunE hr.rm.depth of1 rfl L.co L.gen rfl ⟨c', oc, ws, tq, rfl, hoc, hdc, hvc⟩ ?_
  rw [hbind]
  refine wpAny_pure (wpAny_newFunctionEnv (fun y hy => (L.own y hy).2) (fun y hy => nomatch hy) (fun h₁ hns hsb => ⟨(e0.mod.nolimit.keeps fun b o e => (e0.bs b o e).1).fresh _ hsb, ?_⟩) L.kind)
  have kp : ∀ b o, s1.heap.get? b = some o → h₁.get? b = some o := fun b o e => hsb.extBut b o (fun z => Nat.lt_irrefl _ (by have := Heap.lt_size e; rw [z] at this; exact this)) (Heap.get?_push_of_some _ e)
  have J : Inv (LamX.lamCx X A outer s1 l'.H E scope f c') [] σ l'.H { s1 with heap := h₁, toks := s1.toks + ([] : List (Str × Value)).length } := LamX.lam_start2 I L e0 hr.hd un hns kp
  refine PySem.W.kla_codeExpr (wpAny_mono ((hbody A outer s1 l'.H E N' (hr.deeper _)).run [] _ σ l'.H Q J ⟨l', ⟨capt env, mu'⟩, rfl, okL, runL⟩) (fun v s' hq => ?_) fun e s' z => z)
  obtain ⟨w', H', J', rv, q'⟩ := hq
  exact ⟨w', H', J'.os, J'.bare, J'.base, J'.hok, rv, q'⟩
/-- how the def that got the lambda calls it -/
def ActAt (P : Program) (w : World) (K : PySem.W.Frag) (mg : Str → Option Value) (base : Heap) (Cr : Addr) (N : List Str) (qual : Str) (scope : Scope) (fg : Addr) (a : Str) (A : Around) (outer : List Env) (s : Shared) (H : Hp) (t : Clo) (xs : List PV) (B : DB) : Prop :=
  ∀ (cdv : Value) (E : XK) (Nn : Addr → Prop) (W : WX) (pn : List (Addr × Obj)) (xe : Value → Shared → Prop) (p1 p2 : Pos), Takes ((cxOf (L2.CX P w) P w K mg base N qual scope fg cdv A outer s H E).tr pn xe) W →
    JE ((cxOf (L2.CX P w) P w K mg base N qual scope fg cdv A outer s H E).tr pn xe) ⟨Cr, Nn, W⟩ (.Call (.Name a p1) [] [] p2) (dAct 0 t xs B)
theorem act_of {Cr : Addr} {params : Arguments} {body : Expr} {scope : Scope} {f c' : Addr} {pm ctv : Value} {k : Nat} {de : DE} {env : List (Option SV)} {vs : List V} {N : List Str} {qual : Str} {sg : Scope} {fg : Addr} {a : Str} (I : Inv X pins σ H s) (L : LamX.LamS X.env.scope scope)
    (hf : s.heap.get? f = some (PySem.W.kla_obj "<lambda>" (X.env.qual ++ "<lambda>") params body scope (cloFrom X.env.cells scope.names []) pm c' ctv)) (hfn : H f = none) (hfr : f ∉ frs X.stack)
    (hbind : bindArgs (PySem.W.kla_fn "<lambda>" (X.env.qual ++ "<lambda>") params body scope (cloFrom X.env.cells scope.names []) pm (.ref c') ctv) ⟨[], []⟩ = pure [])
    (hlen : env.length = σ.length) (hc : Caps env σ vs)
    (hbody : ∀ (A : Around) (outer : List Env) (s : Shared) (H : Hp) (E : XK) (Nn : Addr → Prop), Room k (A.deeper (LamX.lamEnv X scope s.heap.objs.size f c')) → JE (LamX.lamCx X A outer s H E scope f c') ⟨Cr, Nn, fun c dd _ H => E c dd H⟩ body de)
    (hr : Room (k + 2) X.A) (hN : N[0]? = some a) (hv : Vis sg a) (hd : (a == ("__debug__" : Str)) = false) (hcd : (a == ("__classdict__" : Str)) = false) :
    ActAt X.prog X.w X.K X.mg X.base Cr N qual sg fg a X.A X.stack s H ⟨f, c', X.env.qual ++ "<lambda>", vs⟩ (capV env) (runLam de env) := by
  intro cdv E Nn W pn xe p1 p2 tk
  refine ⟨fun pinsZ sZ σZ HZ Q IZ h => ?_⟩
  obtain ⟨lZ, stZ, rfl, okZ, run⟩ := h
  unfold dAct at run
  split at run
  rotate_left
  · exact run.elim
  rename_i t' xs' es
  by_cases ht : t' = ⟨f, c', X.env.qual ++ "<lambda>", vs⟩ ∧ xs' = capV env
  rotate_left
  · rw [if_neg ht] at run
    exact run.elim
  rw [if_pos ht] at run
  obtain ⟨rfl, rfl⟩ := ht
  obtain ⟨u, hs, hu, nc, hco, rxs⟩ := okZ.env 0 _ es
  subst hu
  refine wpAny_Call_Name_kw (thn ((pe_var (pos := p1) (i := 0) hN hv hd hcd).run pinsZ sZ σZ lZ.H (fun v H1 => v = .ref f ∧ H1 = lZ.H) IZ ⟨.ref f, hs, rfl, rfl⟩) fun u s1 ⟨v, H1, I1, r1, q1⟩ => ?_)
  obtain ⟨ev, eH⟩ := q1
  subst ev
  rw [eH] at I1
  obtain rfl : u = Value.ref f := r1
  have un : Un (frs X.stack) [] H lZ.H s.heap s1.heap := I1.base
  have of1 := un.keep f _ hf hfn hfr (fun z => nomatch z)
  refine PySem.W.callWith_F0 ⟨_, _, _, _, of1⟩ ?_
  have asks := call_asks (F := FLam (capV env) (runLam de env)) (n := (capV env).length) okZ rxs rfl (by
    unfold FLam
    rw [if_pos rfl]
    exact run)
  have rc := lam_run (A := X.A.deeper (envOfC qual sg s.heap.objs.size fg cdv)) I L hf hfn hfr hbind hlen hc hbody (hr.deeper _) I1.env0 un hco asks
  refine wpAny_call (codeAny_mono rc fun r s' hq => ?_)
  cases r with
  | error e => exact passAt tk σZ pinsZ lZ.H s1 e s' I1 hq
  | ok fl =>
    cases fl with
    | ret u => exact I1.after hq
    | next => exact False.elim hq
    | brk => exact False.elim hq
    | cont => exact False.elim hq
/-- a def that takes a lambda and calls it -/
def FJL (P : Program) (w : World) (K : PySem.W.Frag) (mg : Str → Option Value) (base : Heap) (Cr : Addr) (k : Nat) (f : Addr) (fd : FuncData) (N : List Str) (qual : Str) (scope : Scope) (a : Str) (FL : Clo → List PV → DB → DF) : Prop :=
  ∀ (t : Clo) (xs : List PV) (B : DB) (A : Around) (outer : List Env) (s : Shared) (H : Hp), ActAt P w K mg base Cr N qual scope f a A outer s H t xs B → ∀ (args : Args) (us : List Value) (vs : List V) (Q : VK) (E : XK), Room k A → Env0 P w K mg base A outer s H → BindsTo s fd args ([a].zip us) → Vals vs us →
    spJ K Cr 1 (FL t xs B) vs H Q E → codeAny (model P w) A (.call (.ref f) args) (CR (L2.CX P w) outer P w H s Q E) s
theorem jf_fnL {P : Program} {w : World} {K : PySem.W.Frag} {mg : Str → Option Value} {base : Heap} {Cr : Addr} {x qual : Str} {params : Arguments} {body : List Stmt} {scope : Scope} {dvs : List V} {kws : List (Str × V)} {f : Addr} {fd : FuncData} {N : List Str} {a : Str} {k : Nat} {d : Clo → List PV → DB → DS}
    (F : FunD K x qual params body scope dvs kws f fd) (S : FnScope N [a] scope) (hb : ∀ (t : Clo) (xs : List PV) (B : DB) (cdv : Value) (A : Around) (outer : List Env) (s : Shared) (H : Hp) (E : XK) (Nn : Addr → Prop), Room k (A.deeper (envOfC qual scope s.heap.objs.size f cdv)) →
      (∀ (W : WX) (pn : List (Addr × Obj)) (xe : Value → Shared → Prop) (p1 p2 : Pos), Takes ((cxOf (L2.CX P w) P w K mg base N qual scope f cdv A outer s H E).tr pn xe) W → JE ((cxOf (L2.CX P w) P w K mg base N qual scope f cdv A outer s H E).tr pn xe) ⟨Cr, Nn, W⟩ (.Call (.Name a p1) [] [] p2) (dAct 0 t xs B)) →
      JSs (cxOf (L2.CX P w) P w K mg base N qual scope f cdv A outer s H E) ⟨Cr, Nn, fun c dd _ H => E c dd H⟩ body (d t xs B)) : FJL P w K mg base Cr (k + 1) f fd N qual scope a (fun t xs B => runBody N.length (d t xs B)) :=
  fun t xs B A outer s H act args us vs Q E hr e0 hbd rv h => fn_run F S hr e0 hbd rv (by
      obtain ⟨_, _, qs, _, _, _, r, hl, _⟩ := h
      rw [← r.length, hl]
      rfl) fun cdv _ hr' => body_asks S (fun Nn => hb t xs B cdv A outer s H E Nn hr' fun W pn xe p1 p2 tk => act cdv E Nn W pn xe p1 p2 tk) h
def HasL (P : Program) (w : World) (K : PySem.W.Frag) (mg : Str → Option Value) (base : Heap) (Cr : Addr) (x : Str) (k : Nat) (FL : Clo → List PV → DB → DF) : Prop :=
  ∃ (f : Addr) (fd : FuncData) (N : List Str) (qual : Str) (scope : Scope) (a : Str), mg x = some (.ref f) ∧ PySem.W.keepIn K (.ref f) = true ∧ Binds K fd [a] [] ∧ N[0]? = some a ∧ Vis scope a ∧ (a == ("__debug__" : Str)) = false ∧ (a == ("__classdict__" : Str)) = false ∧ FJL P w K mg base Cr k f fd N qual scope a FL
/-- a value that is the same whatever the lambda's addresses are -/
noncomputable def pickR (f : Clo → R (List MO) PV) : R (List MO) PV := @dite _ (∃ r, ∀ t, f t = r) (Classical.propDecidable _) (fun h => h.choose) fun _ => .bad
theorem pickR_eq {f : Clo → R (List MO) PV} {r : R (List MO) PV} (h : ∀ t, f t = r) : pickR f = r := by
  have e : ∃ r, ∀ t, f t = r := ⟨r, h⟩
  unfold pickR
  rw [dif_pos e]
  exact ((e.choose_spec ⟨0, 0, ("" : Str), []⟩).symm.trans (h _))
/-- x(lambda: e) -/
noncomputable def dLam (FL : Clo → List PV → DB → DF) (de : DE) : DE := fun s => match pickR fun t => FL t (capV s.env) (runLam de s.env) [.clo t (capV s.env)] s.mu with
  | .ok v mu => .ok v ⟨s.env, mu⟩
  | .exn e mu => .exn e ⟨s.env, mu⟩
  | .bad => .bad
/-- where lambdas are made: the def's own code object, its table -/
structure Mkr (X : Cx) (y : Str) : Prop where
  mem : y ∈ TK X.K
  code : X.env.code = .ref (cdA X.K y)
  tab : LamX.TabB X.base X.mg (cdA X.K y) (tA X.K y)
  qual : X.env.qual ++ "<lambda>" = y ++ ".<locals>.<lambda>"
  inj : ∀ z ∈ TK X.K, tA X.K z = tA X.K y → z = y
theorem lam_make3 {g : Gx} {l : Lc} {st : S} {y : Str} {params : Arguments} {body : Expr} {scope : Scope} {pos : Pos} {E : Value → Shared → Prop} {Q : Value → Shared → Prop} (I : Inv X pins σ l.H s) (ok : Sok X.K g l st σ) (M : Mkr X y) (hdef : defaultsOf params X.env = ([], []))
    (hfree : ∀ y ∈ scope.names, y.2 = .free → ∃ c, X.env.cells.lookup y.1 = some c)
    (h : ∀ (f c' : Addr) (pm ctv : Value) (l1 : Lc) (s' : Shared), Inv X pins σ l1.H s' → Step l l1 → Sok X.K g l1 st σ → ¬ g.L l1 c' → l1.H c' = some (LamX.CodeO c' (X.env.qual ++ "<lambda>")) →
      s'.heap.get? f = some (PySem.W.kla_obj "<lambda>" (X.env.qual ++ "<lambda>") params body scope (cloFrom X.env.cells scope.names []) pm c' ctv) → l1.H f = none → f ∉ frs X.stack → Q (.ref f) s') :
    wpAny (model X.prog X.w) X.A (eval (.Lambda params body scope pos) X.env) Q E s := by
  have TI := ok.tabs y M.mem
  obtain ⟨ps, hP, ht, ha⟩ := TI.is
  have eq := M.qual
  rw [← eq] at ha
  refine PySem.W.kla_eval hdef ?_
  have bP := M.tab.bm.keeps I.bk
  have hP' : s.heap.get? (tA X.K y) = some { cls := .none, data := .fields ps } := I.hok _ _ hP
  have nofr : ∀ f, s.heap.objs.size ≤ f → f ∉ frs X.stack := fun f hf z => by
    rcases List.mem_cons.mp (I.stkSub _ z) with e | e
    · have h1 := I.lt
      rw [← e] at h1
      exact absurd (Nat.lt_of_lt_of_le h1 hf) (Nat.lt_irrefl _)
    · exact I.nofs hf e
  match hc : codeAmong pos ps.toList with
  | none =>
    refine PySem.W.kla_makeFunction (mg := X.mg) (closure_ok hfree) I.ok.glob (I.mod.glob.keeps I.bk) M.code (M.tab.code.keeps I.bk) hP' ht hc M.tab.gP bP fun c' ctv h' tk hx hge hlt hrec htb => ?_
    obtain ⟨c2, oc, vs, t, e2, hoc, hd, hv⟩ := hrec
    cases e2
    have hsz : s.heap.objs.size ≤ h'.objs.size := by omega
    have nC : l.H c' = none := I.hok.fresh hge
    have I1 := LamX.inv_table (t' := tk) (more := #[rawInt pos.line, rawInt pos.col, .ref c']) (h' := h'.push (PySem.W.kla_obj "<lambda>" (X.env.qual ++ "<lambda>") params body scope (cloFrom X.env.cells scope.names []) ((X.mg "__name__").getD .none) c' ctv)) I hP
      (fun b o hb e => Heap.get?_push_of_some _ (hx b o hb e)) (Heap.get?_push_of_some _ htb) hge ⟨oc, vs, t, Heap.get?_push_of_some _ hoc, hd, hv⟩
    have nE : tA X.K y ≠ c' := ne_of_none hP nC
    have kp : ∀ a o, ¬ IsT X.K a → l.H a = some o → upd (upd l.H (tA X.K y) (.tbl (ps ++ #[rawInt pos.line, rawInt pos.col, .ref c']))) c' (LamX.CodeO c' (X.env.qual ++ "<lambda>")) a = some o := fun a o n e => by
      rw [upd_ne (ne_of_none e nC), upd_ne (fun z => n ⟨y, M.mem, z⟩)]
      exact e
    have nLc : ∀ a o, ¬ g.L l a → l.H a = some o → ¬ IsT X.K a := fun a o n e z => n (.inl (ok.inM (.inr z)))
    obtain ⟨st1, ok1⟩ := ok.growT (l' := ⟨l.al, l.M, upd (upd l.H (tA X.K y) (.tbl (ps ++ #[rawInt pos.line, rawInt pos.col, .ref c']))) c' (LamX.CodeO c' (X.env.qual ++ "<lambda>"))⟩) rfl rfl kp fun z hz => by
      have TZ := ok.tabs z hz
      by_cases ez : z = y
      · subst ez
        refine ⟨TZ.M, TZ.al, _, by show upd _ c' _ _ = _; rw [upd_ne nE, upd_same], by rw [Array.toList_append]; exact PySem.TriplesOk_snoc _ _ _ _ ht, fun p' cv hcv => ?_⟩
        rw [Array.toList_append] at hcv
        rcases LamX.among_app _ ht hcv with w | w
        · obtain ⟨c0, e1, e2, e3⟩ := ha p' cv w
          exact ⟨c0, e1, e2, by rw [← eq]; exact kp _ _ (nLc _ _ e2 e3) e3⟩
        · exact ⟨c', w, ok.fresh nC, by rw [← eq]; exact upd_same⟩
      · refine TZ.to TZ.M TZ.al (fun qs e => ?_) fun c q n e => ⟨kp _ _ (nLc _ _ n e) e, n⟩
        show upd _ c' _ _ = _
        rw [upd_ne (ne_of_none e nC), upd_ne (fun w => ez (M.inj z hz w))]
        exact e
    have n1 : h'.objs.size ≠ c' := by omega
    have n2 : h'.objs.size ≠ tA X.K y := fun z => absurd (Nat.lt_of_lt_of_le (Heap.lt_size hP') hsz) (by rw [z]; exact Nat.lt_irrefl _)
    refine h h'.objs.size c' ((X.mg "__name__").getD .none) ctv _ _ I1 st1 ok1 (ok.fresh nC) upd_same (Heap.get?_push_size _ rfl) ?_ (nofr _ hsz)
    show upd _ c' _ _ = none
    rw [upd_ne n1, upd_ne n2]
    exact I.hok.fresh hsz
  | some cv =>
    obtain ⟨c', e, nc, hco⟩ := ha pos cv hc
    subst e
    refine PySem.W.kla_makeFunctionHit (mg := X.mg) (closure_ok hfree) I.ok.glob (I.mod.glob.keeps I.bk) M.code (M.tab.code.keeps I.bk) hP' ht hc bP fun ctv h' tk hx hsz => ?_
    have I1 : Inv X pins σ l.H { s with heap := h'.push (PySem.W.kla_obj "<lambda>" (X.env.qual ++ "<lambda>") params body scope (cloFrom X.env.cells scope.names []) ((X.mg "__name__").getD .none) c' ctv), toks := tk } := I.kept fun b o e => Heap.get?_push_of_some _ (hx b o e)
    exact h h'.objs.size c' ((X.mg "__name__").getD .none) ctv l _ I1 (Step.refl l) ok nc hco (Heap.get?_push_size _ rfl) (I.hok.fresh hsz) (nofr _ hsz)
end
section
variable {X : Cx} {g : Gx}
/-- x(lambda: e), x a def that calls what it gets -/
theorem j_lamcall {x y : Str} {k kl : Nat} {FL : Clo → List PV → DB → DF} {params : Arguments} {body : Expr} {scope : Scope} {de : DE} {p lpos pos : Pos} (hL : HasL X.prog X.w X.K X.mg X.base g.CR x k FL) (hr : Room k X.A) (hr2 : Room (kl + 2) X.A) (tk : Takes X g.W) (M : Mkr X y)
    (hbody : ∀ (A : Around) (outer : List Env) (s : Shared) (H : Hp) (E : XK) (f c' : Addr) (Nn : Addr → Prop), Room kl (A.deeper (LamX.lamEnv X scope s.heap.objs.size f c')) → JE (LamX.lamCx X A outer s H E scope f c') ⟨g.CR, Nn, fun c dd _ H => E c dd H⟩ body de)
    (L : LamX.LamS X.env.scope scope := by exact LamX.lamS_by rfl) (hdef : defaultsOf params X.env = ([], []) := by rfl)
    (hbind : ∀ (q : Str) (cl : List (Str × Addr)) (pm cv ctv : Value), bindArgs (PySem.W.kla_fn "<lambda>" q params body scope cl pm cv ctv) ⟨[], []⟩ = pure [] := by exact fun _ _ _ _ _ => rfl)
    (hg : Gl X x := by rfl) (hdb : (x == ("__debug__" : Str)) = false := by decide) : JE X g (.Call (.Name x p) [.Lambda params body scope lpos] [] pos) (dLam FL de) := by
  obtain ⟨fg, fd, N, qual, sg, a, hm, hk, hb, hN, hv, hd, hcd, G⟩ := hL
  refine ⟨fun pins s σ H Q I h => ?_⟩
  obtain ⟨l, st, rfl, ok, h⟩ := h
  refine wpAny_Call_Name_kw (ld_glob I hg hm ?_ hdb)
  refine PySem.W.callWith_K (h₀ := X.base) I.ok.mod.kin hk ?_ (by rfl) (by rfl)
  show wpAny _ _ (spliced ((false, eval (.Lambda params body scope lpos) X.env) :: backTo pos (starEach [] X.env))) _ _ s
  refine Calls.spliced_cons (lam_make3 I ok M hdef (L.has I.ok) fun f c' pm ctv l1 s' I1 st1 ok1 nc hco hf hfn hfr => ?_)
  refine Calls.spliced_nil ⟨I1.kIn, ?_⟩
  obtain ⟨vs, rvs, caps⟩ := caps_of (K := X.K) (g := g) (l := l1) st.env σ ok1.len ok1.env
  have act := act_of (N := N) (qual := qual) (sg := sg) (fg := fg) (Cr := g.CR) I1 L hf hfn hfr (hbind _ _ _ _ _) ok1.len caps (fun A outer s H E Nn hr => hbody A outer s H E f c' Nn hr) hr2 hN hv hd hcd
  have run : Run X.K g (match FL ⟨f, c', X.env.qual ++ "<lambda>", vs⟩ (capV st.env) (runLam de st.env) [.clo ⟨f, c', X.env.qual ++ "<lambda>", vs⟩ (capV st.env)] st.mu with | .ok v mu => .ok v ⟨st.env, mu⟩ | .exn e mu => .exn e ⟨st.env, mu⟩ | .bad => .bad) l1 σ Q := by
    unfold dLam pickR at h
    by_cases z : ∃ r, ∀ t, FL t (capV st.env) (runLam de st.env) [.clo t (capV st.env)] st.mu = r
    · rw [dif_pos z, ← z.choose_spec ⟨f, c', X.env.qual ++ "<lambda>", vs⟩] at h
      exact Run.step h st1
    · rw [dif_neg z] at h
      exact h.elim
  have asks := call_asks (n := 1) ok1 (ps := [.clo ⟨f, c', X.env.qual ++ "<lambda>", vs⟩ (capV st.env)]) (us := [.ref f]) ⟨.ref f, [], rfl, ⟨rfl, nc, hco, rvs⟩, rfl⟩ rfl run
  have rc := G _ _ _ X.A X.stack s' l1.H act ⟨[.ref f], []⟩ [.ref f] [.ref f] Q _ hr I1.env0 (hb s' [.ref f] I1.kIn rfl) (.cons rfl .nil) asks
  refine wpAny_call (codeAny_mono rc fun r s2 hq => ?_)
  cases r with
  | error e => exact passAt tk σ pins l1.H s' e s2 I1 hq
  | ok fl =>
    cases fl with
    | ret u => exact I1.after hq
    | next => exact False.elim hq
    | brk => exact False.elim hq
    | cont => exact False.elim hq
end
end L3
namespace L3
open PySem PySem.Spec PyProof.Rows L2
section
variable {P : Program} {w : World} {K : PySem.W.Frag} {mg mb : Str → Option Value} {CX : CXT} {k : Nat} {fa a : Addr} {fd : FuncData} {x : Str} {sp : Sp} {s₁ : Shared} {vs : List Value} {ns : List Int} {names : List Str}
theorem callGT (KX : K.In s₁.heap) (hns : s₁.heap.Ns mainGlobals mg) (hb : s₁.heap.Ns builtinsNs mb) (hbb : ∀ x : Str, x ≠ "__name__" → mb x = bootBuiltins x) (hlim : s₁.heap.NoLimit) (hg : s₁.gens = #[]) (T : Tabs s₁.heap K names)
    (hbm : ∃ (bm : Addr) (ob : Obj), mg "__builtins__" = some (.ref bm) ∧ bm ≠ builtinsNs ∧ s₁.heap.get? bm = some ob ∧ ob.cls = .type "module" ∧ ob.dict = some builtinsNs ∧ ob.data = .plain)
    (ha : s₁.heap.get? a = some { cls := .type "list", data := .seq vs.toArray }) (hi : IntsAre vs ns) (hl : ns.length ≤ sizeLine) (hr : L2.Room k callerA)
    (F : ∀ base : Heap, K.In base → base.Ns mainGlobals mg → (∀ x ∈ names, LamX.TabB base mg (cdA K x) (tA K x)) → FnG P w K mg base CX k fa fd [x] sp) (hbind : ∀ (s : Shared) (u : Value), BindsTo s fd ⟨[u], []⟩ [(x, u)])
    (hsp : ∀ H : Hp, (∀ x ∈ names, H (tA K x) = some (.tbl #[])) → SqL K H a (ns.map V.int) → sp [.ref a] H (fun v _ => v = .bl true) fun _ _ _ => False) (hCX : ∀ H e s', CX [] H s₁ (fun _ _ _ => False) e s' → False) :
    codeAny (model P w) callerA (.call (.ref fa) ⟨[.ref a], []⟩) (fun r s' => r = .ok (.ret (.bool true)) ∧ OldK s₁.heap s'.heap ∧ s'.os = s₁.os ∧ AllBare s'.gens) s₁ := by
  have rv := vals_ints hi
  have isT : ∀ b ∈ names.map (tA K), s₁.heap.get? b = some { cls := .none, data := .fields #[] } := fun b hb => by
    obtain ⟨y, hy, rfl⟩ := List.mem_map.mp hb
    exact T.emp y hy
  have aT : a ∉ names.map (tA K) := fun z => by
    have q := isT a z
    rw [ha] at q
    cases q
  have inT : ∀ y ∈ names, tA K y ∈ names.map (tA K) := fun y hy => List.mem_map.mpr ⟨y, hy, rfl⟩
  -- the heap that is tracked: the tables, and the script
  obtain ⟨H, hT, hcase, hok, hS⟩ : ∃ H : Hp, (∀ b ∈ names.map (tA K), H b = some (.tbl #[])) ∧ (∀ b, b ∉ names.map (tA K) → H b = none ∨ (b = a ∧ K.lookup a = none ∧ ∃ o xs, H b = some (.frz o (.lst xs)))) ∧ HOk P w H s₁.heap ∧ SqL K H a (ns.map V.int) := by
    match hk : K.lookup a with
    | some o =>
      have e := KX a o hk
      rw [ha] at e
      cases e
      refine ⟨fun b => if b ∈ names.map (tA K) then some (.tbl #[]) else none, fun b h => if_pos h, fun b h => .inl (if_neg h), fun b u z => ?_, .inr ⟨_, vs.toArray, _, hk, rfl, rfl, rfl, by rw [List.size_toArray, hi.length]; exact hl, by simpa using rv⟩⟩
      by_cases q : b ∈ names.map (tA K)
      · have z := (if_pos q).symm.trans z
        cases z
        exact isT b q
      · have z := (if_neg q).symm.trans z
        cases z
    | none =>
      let ob : Obj := { cls := .type "list", data := .seq vs.toArray }
      refine ⟨fun b => if b ∈ names.map (tA K) then some (.tbl #[]) else if b = a then some (.frz ob (.lst (ns.map V.int))) else none, fun b h => if_pos h, fun b h => ?_, fun b u z => ?_, .inl (.inr ⟨ob, (if_neg aT).trans (if_pos rfl)⟩)⟩
      · by_cases q : b = a
        · exact .inr ⟨q, rfl, ob, _, (if_neg h).trans (if_pos q)⟩
        · exact .inl ((if_neg h).trans (if_neg q))
      · by_cases q : b ∈ names.map (tA K)
        · have z := (if_pos q).symm.trans z
          cases z
          exact isT b q
        · have z := (if_neg q).symm.trans z
          by_cases q2 : b = a
          · have z := (if_pos q2).symm.trans z
            cases z
            subst q2
            exact ⟨ha, by rw [List.length_map]; exact hl, vs, _, rv, ha⟩
          · have z := (if_neg q2).symm.trans z
            cases z
  -- what is not tracked
  have out : ∀ (b : Addr) (o : Obj), s₁.heap.get? b = some o → (∀ us n, o.data ≠ .seq us n) → o.data ≠ .fields #[] → H b = none := fun b o e n1 n2 => by
    by_cases q : b ∈ names.map (tA K)
    · rw [isT b q] at e
      cases e
      exact absurd rfl n2
    · rcases hcase b q with z | ⟨z, _⟩
      · exact z
      · rw [z, ha] at e
        cases e
        exact absurd rfl (n1 _ _)
  have hid : ∀ {b : Addr} {m : Str → Option Value}, s₁.heap.Ns b m → (hidT s₁.heap H).Ns b m := by
    rintro b m ⟨o, es, ep, e, d, r⟩
    exact ⟨o, es, ep, hidT_get e (out b o e (fun us n z => by rw [d] at z; cases z) (fun z => by rw [d] at z; cases z)), d, r⟩
  have kin : K.In (hidT s₁.heap H) := fun b o e => by
    refine hidT_get (KX b o e) ?_
    by_cases q : b ∈ names.map (tA K)
    · obtain ⟨y, hy, rfl⟩ := List.mem_map.mp q
      rw [T.out y hy] at e
      cases e
    · rcases hcase b q with z | ⟨z, z2, _⟩
      · exact z
      · rw [z, z2] at e
        cases e
  have tb : ∀ y ∈ names, LamX.TabB (hidT s₁.heap H) mg (cdA K y) (tA K y) := fun y hy => by
    refine ⟨?_, ?_, fun z => ?_⟩
    · obtain ⟨o, us, file, tf, flags, tg, inF, text, tt, e1, r1, r2, r3, r⟩ := T.hd y hy
      exact ⟨o, us, file, tf, flags, tg, inF, text, tt, hidT_get e1 (out _ o e1 (fun vs n z => by rw [r2] at z; cases z) fun z => by
        rw [r2] at z
        cases z
        simp at r3), r1, r2, r3, r⟩
    · obtain ⟨bm, ob, b1, b2, b3, b4, b5, b6⟩ := hbm
      refine ⟨bm, ob, b1, b2, fun q => ?_, fun q => ?_, hidT_get b3 (out _ ob b3 (fun vs n z => by rw [b6] at z; cases z) fun z => by rw [b6] at z; cases z), b4, b5, b6⟩
      · obtain ⟨o, es, ep, e, hd, _⟩ := hns
        rw [q, e] at b3
        cases b3
        rw [hd] at b6
        cases b6
      · rw [q, T.emp y hy] at b3
        cases b3
        cases b6
    · obtain ⟨o, es, ep, e, hd, _⟩ := hns
      rw [z, T.emp y hy] at e
      cases e
      cases hd
  obtain ⟨mc, c1, c2⟩ := hlim
  have e0 : Env0 P w K mg (hidT s₁.heap H) callerA [] s₁ H := ⟨rfl, ⟨kin, hid hns, ⟨mb, hid hb, hbb⟩, ⟨mc, hid c1, c2⟩⟩, fun b o e => of_hidT e, Nat.le_of_eq (hidT_size _ _), trivial, fun b z => (nomatch z), hok, .of_eq hg⟩
  refine codeAny_mono ((F _ kin (hid hns) tb).run callerA [] s₁ H ⟨[.ref a], []⟩ [.ref a] [.ref a] _ _ (room_top hr) e0 (hbind s₁ (.ref a)) (.cons rfl .nil) (hsp H (fun y hy => hT _ (inT y hy)) hS)) fun r s' h => ?_
  match r, h with
  | .error e, z => exact (hCX H e s' z).elim
  | .ok .next, z => exact False.elim z
  | .ok .brk, z => exact False.elim z
  | .ok .cont, z => exact False.elim z
  | .ok (.ret u), ⟨v, H', os, bare, un, hok', rv', ev⟩ =>
    have ev : v = .bl true := ev
    subst ev
    cases (show u = Value.bool true from rv')
    have tabs' : ∀ b ∈ names.map (tA K), ∃ more : Array Value, s'.heap.get? b = some { cls := .none, data := .fields more } := fun b hb => by
      obtain ⟨more, z⟩ := un.tbls b #[] (hT b hb)
      exact ⟨_, hok' b _ z⟩
    have keep' : ∀ b o, b ∉ names.map (tA K) → s₁.heap.get? b = some o → s'.heap.get? b = some o := fun b o nb e => by
      rcases hcase b nb with z | ⟨_, _, ob, xs, z⟩
      · exact un.keep b o e z (fun y => nomatch y) (fun y => nomatch y)
      · have e1 := (hok b _ z).1
        rw [e] at e1
        cases e1
        exact (hok' b _ (un.frzs b _ _ z)).1
    refine ⟨rfl, ⟨fun b o e => ?_, fun b o e => ?_⟩, os, bare⟩
    · by_cases q : b ∈ names.map (tA K)
      · obtain ⟨more, hm⟩ := tabs' b q
        obtain ⟨y, hy, ey⟩ := List.mem_map.mp q
        have e2 := e
        rw [isT b q] at e2
        cases e2
        have cd := (T.hd y hy).tab (T.emp y hy)
        rw [ey] at cd
        exact .inr (.inl ⟨cd.isCodeTable, rfl, #[], more, rfl, by rw [Array.empty_append]; exact hm⟩)
      · exact .inl (keep' b o q e)
    · by_cases q : b ∈ names.map (tA K)
      · obtain ⟨more, hm⟩ := tabs' b q
        exact ⟨_, hm⟩
      · exact ⟨o, keep' b o q e⟩
end
/-- a law's end -/
theorem walkGT {l : PySem.W.OpenLaw} {n k : Nat} {q : Program} {loose : List Str} {XP : (Str → Option Value) → Heap → Prop} {YP : World → Heap → Prop} {d : DefRec} {CX : CXT} {x : Str} {names : List Str} (hn : l.most = some n) (hn2 : n ≤ sizeLine) (hdf : d.params.defaults = []) (hr : L2.Room k callerA)
    (F : ∀ (w : World) (mg : Str → Option Value) (fa : Addr) (h : Heap), YP w h → h.Ns mainGlobals mg → mg d.name = some (.ref fa) →
      ∃ (K : PySem.W.Frag) (fd : FuncData) (sp : Sp), K.In h ∧ Tabs h K names ∧ (∀ (s : Shared) (u : Value), BindsTo s fd ⟨[u], []⟩ [(x, u)]) ∧ (∀ (H : Hp) (a : Addr) (ns : List Int), ns.length ≤ n → (∀ x ∈ names, H (tA K x) = some (.tbl #[])) → SqL K H a (ns.map V.int) → sp [.ref a] H (fun v _ => v = .bl true) fun _ _ _ => False) ∧
        ∀ base : Heap, K.In base → base.Ns mainGlobals mg → (∀ x ∈ names, LamX.TabB base mg (cdA K x) (tA K x)) → FnG l.prog w K mg base CX k fa fd [x] sp)
    (hCX : ∀ (H : Hp) (s : Shared) (e : Value) (s' : Shared), CX [] H s (fun _ _ _ => False) e s' → False) : PySem.W.WalkO q loose XP YP l.row.toRowW d [] (fun f vs => PySem.call f vs) := by
  refine Att.attach_call hn hdf fun w s₀ s₁ mg mb fa o pm cd doc a vs ns G Y ho hd hcd hmg hobj hints hlen hg => ?_
  obtain ⟨K, fd, sp, KX, T, hb, hsp, hF⟩ := F w mg fa _ Y G.T.g hmg
  have t := G.T
  exact callGT KX t.g t.b t.builtins t.nolimit hg T t.bmain hobj hints (Nat.le_trans hlen hn2) hr hF hb (fun H hT hS => hsp H a ns hlen hT hS) fun H e s' => hCX H s₁ e s'
theorem inj_nd {f : Str → Addr} : ∀ {l : List Str}, (l.map f).Nodup → ∀ a ∈ l, ∀ b ∈ l, f a = f b → a = b
  | n :: r, h, a, ha, b, hb, e => by
    rw [List.map_cons, List.nodup_cons] at h
    rcases List.mem_cons.mp ha with ha | ha
    · rcases List.mem_cons.mp hb with hb | hb
      · rw [ha, hb]
      · exact absurd (List.mem_map.mpr ⟨b, hb, by rw [← e, ha]⟩) h.1
    · rcases List.mem_cons.mp hb with hb | hb
      · exact absurd (List.mem_map.mpr ⟨a, ha, by rw [e, hb]⟩) h.1
      · exact inj_nd h.2 a ha b hb e
/-- a def that makes lambdas -/
theorem Mkr.of {K : PySem.W.Frag} {base : Heap} {mg : Str → Option Value} {h : Heap} {names : List Str} {P : Program} {w : World} {N : List Str} {y : Str} {scope : Scope} {cdv : Value} {A : Around} {outer : List Env} {s : Shared} {H : Hp} {E : XK} (T : Tabs h K names) (tb : ∀ x ∈ names, LamX.TabB base mg (cdA K x) (tA K x)) (hy : y ∈ names) (hc : CodeAt K (He.ga K y) cdv y)
    (hq : (envOfC y scope s.heap.objs.size (He.ga K y) cdv).qual ++ "<lambda>" = y ++ ".<locals>.<lambda>") : Mkr (cxOf (L2.CX P w) P w K mg base N y scope (He.ga K y) cdv A outer s H E) y := by
  obtain ⟨⟨oc, od, fd, osl, lk, e⟩, cc⟩ := hc
  have hcd : cdv = .ref (cdA K y) := by
    unfold cdA
    rw [lk]
    match cdv, cc, e with
    | .ref c, _, e => show Value.ref c = .ref (match fd.code with | .ref c => c | _ => 0); rw [e]
  refine ⟨by rw [show TK (cxOf (L2.CX P w) P w K mg base N y scope (He.ga K y) cdv A outer s H E).K = names from T.tk]; exact hy, hcd, tb y hy, hq, fun z hz e2 => ?_⟩
  have hz : z ∈ names := by rw [← T.tk]; exact hz
  exact inj_nd T.nd z hz y hy e2
end L3
namespace L3
open PySem PySem.Spec PyProof.Rows L2
structure ExI (K : PySem.W.Frag) (C : Addr) : Prop where
  cl : (PySem.W.clsIn K C).isSome = true
  ga : PySem.W.findIn K (.ref C) "__getattribute__" = some (some (.builtin "BaseException.__getattribute__"))
  gt : PySem.W.findIn K (.ref C) "__getattr__" = some none
  sb : PySem.W.subIn K (.ref C) (.type "BaseException") = some true
  ha : PySem.W.findIn K (.ref C) "__class__" = some (some (.builtin "object.__class__"))
  hn : PySem.W.specialIn K (.builtin "object.__class__") "__get__" = some (some (.builtin "getset_descriptor.__get__"))
  tk : PySem.W.takesIn K (.builtin "object.__class__") = some true
  hm : PySem.W.mroIn K C (.type "object") = some true
def HasIX (K : PySem.W.Frag) (mg : Str → Option Value) (ns all yes : List Str) : Prop := (∀ n ∈ ns, mg n = some (.ref (He.ga K n))) ∧ ∀ c ∈ all, ExI K (He.ga K c) ∧ isxA K (He.ga K c) ns = some (decide (c ∈ yes))
theorem hasIX_of {K : PySem.W.Frag} {mg : Str → Option Value} {ns all yes : List Str} (g : ∀ n ∈ ns, mg n = some (.ref (He.ga K n))) (h : isxB ns all yes K = true) : HasIX K mg ns all yes := ⟨g, fun c hc => by
  obtain ⟨h, z⟩ := He.ba (List.all_eq_true.mp h c hc)
  obtain ⟨h1, h⟩ := He.ba h
  obtain ⟨h2, h⟩ := He.ba h
  obtain ⟨h3, h⟩ := He.ba h
  obtain ⟨h4, h⟩ := He.ba h
  obtain ⟨h5, h⟩ := He.ba h
  obtain ⟨h6, h⟩ := He.ba h
  obtain ⟨h7, h8⟩ := He.ba h
  exact ⟨⟨h1, He.eqO_ok h2, He.eqO_ok h3, of_decide_eq_true h4, He.eqO_ok h5, He.eqO_ok h6, of_decide_eq_true h7, of_decide_eq_true h8⟩, of_decide_eq_true z⟩⟩
@[simp] def fIsX (all yes : List Str) : PV → S → R S PV := fun p s => match p with
  | .exc c _ _ => if c ∈ all then .ok (.bl (decide (c ∈ yes))) s else .bad
  | _ => .bad
/-- the object of a caught exception -/
def ExO (H : Hp) (a C : Addr) : Prop := ∃ d, H a = some (exv a C d) ∧ ∀ dd, d = some dd → ∃ m, H dd = some (.xd m)
def rIsX (K : PySem.W.Frag) : List V → Hp → VK → Prop := fun xs H Q => ∃ (a C : Addr) (c : V) (cv : Value) (b : Bool), xs = [.ref a, c] ∧ (∀ u, RelV c u → u = cv) ∧ ExO H a C ∧ ExI K C ∧ PySem.W.kitOne K (.ref C) cv = some b ∧ Q (.bl b) H
def rIsXT (K : PySem.W.Frag) : List V → Hp → VK → Prop := fun xs H Q => ∃ (a C tp : Addr) (cs : List V) (ws : List Value) (b : Bool), xs = [.ref a, .ref tp] ∧ H tp = some (.tup cs) ∧ Paired ClsV cs ws ∧ ExO H a C ∧ ExI K C ∧ PySem.W.kitAny K (.ref C) ws = some b ∧ Q (.bl b) H
section
variable {X : Cx} {pins : List (Addr × Obj)} {σ : St} {H : Hp} {s : Shared}
theorem exO_at {a C : Addr} (I : Inv X pins σ H s) (h : ExO H a C) : ∃ oe od, PySem.W.InstAt s.heap a oe C od := by
  obtain ⟨d, ha, hd⟩ := h
  obtain ⟨⟨oe, vs, h4, h5, h6, h7⟩, _⟩ := (show ObjOk X.prog X.w H s.heap a (exv a C d) from I.hok a _ ha)
  have nc : PySem.W.notCls oe = true := by unfold PySem.W.notCls; rw [h7] <;> rfl
  match d, h6, hd with
  | none, h6, _ =>
    refine ⟨oe, none, h4, h5, nc, ?_⟩
    rw [h6]
    trivial
  | some dd, h6, hd =>
    obtain ⟨m, hm⟩ := hd dd rfl
    obtain ⟨mA, hns, hr⟩ := (show ObjOk X.prog X.w H s.heap dd (.xd m) from I.hok dd _ hm)
    obtain ⟨od, ho, hk⟩ := lookIn_ns hns
    exact ⟨oe, some od, h4, h5, nc, by rw [h6]; exact ho⟩
theorem call_isX : CallR X (.builtin "isinstance") (rIsX X.K) := by
  intro pins s σ H xs us Q I r h
  obtain ⟨a, C, c, cv, b, rfl, hcv, hO, E, e, q⟩ := h
  obtain ⟨u1, u2, rfl, r1, r2⟩ := vals2 r
  cases (show u1 = Value.ref a from r1)
  cases hcv _ r2
  obtain ⟨oe, od, J⟩ := exO_at I hO
  exact PySem.W.kia_one (PySem.W.kitx_exc E.cl E.ga E.gt E.sb E.ha E.hn E.tk E.hm) I.kIn J e (fun z => nomatch z) fun tk => ⟨.bl b, H, I.tok tk, rfl, q⟩
theorem call_isXT : CallR X (.builtin "isinstance") (rIsXT X.K) := by
  intro pins s σ H xs us Q I r h
  obtain ⟨a, C, tp, cs, ws, b, rfl, hT, k, hO, E, e, q⟩ := h
  obtain ⟨u1, u2, rfl, r1, r2⟩ := vals2 r
  cases (show u1 = Value.ref a from r1)
  cases (show u2 = Value.ref tp from r2)
  obtain ⟨oe, od, J⟩ := exO_at I hO
  obtain ⟨_, its, rv, o, h1, h2, n, h3⟩ := (show ObjOk X.prog X.w H s.heap tp (.tup cs) from I.hok tp _ hT)
  have e3 := ClsV.all k rv
  subst e3
  obtain ⟨oc, od, dt, sl⟩ := o
  simp only at h2 h3
  subst h2 h3
  exact PySem.W.kia_tup (PySem.W.kitx_exc E.cl E.ga E.gt E.sb E.ha E.hn E.tk E.hm) I.kIn J h1 e (fun z => nomatch z) fun tk => ⟨.bl b, H, I.tok tk, rfl, q⟩
end
section
variable {X : Cx} {g : Gx} {a : Expr} {da : DE} {pos p p1 p2 : Pos} {n1 n2 : Str} {all yes : List Str}
theorem exO_of {K : PySem.W.Frag} {l : Lc} {c : Str} {ns : List Str} {xs : List PV} {x : V} (r : RepG K g l (.exc c ns xs) x) : ∃ a, x = .ref a ∧ ExO l.H a (He.ga K c) := by
  obtain ⟨a, d, vs, rfl, na, ha, hl, hd, rxs⟩ := r
  refine ⟨a, rfl, d, ha, fun dd e => ?_⟩
  rcases hd with ⟨hd, _⟩ | ⟨d2, hd, _, h3⟩
  · rw [hd] at e; cases e
  · rw [hd] at e; cases e; exact ⟨_, h3⟩
/-- isinstance(e, C) -/
theorem j_isX1 (T : HasIX X.K X.mg [n1] all yes) (hm : X.mg "isinstance" = none) (ha : JE X g a da) (hg : Gl X "isinstance" := by rfl) (hg1 : Gl X n1 := by rfl) (hd1 : (n1 == ("__debug__" : Str)) = false := by decide)
    (h1 : starEach [a, .Name n1 p1] X.env = (false, eval a X.env) :: starEach [.Name n1 p1] X.env := by rfl) (h2 : starEach [.Name n1 p1] X.env = (false, eval (.Name n1 p1) X.env) :: starEach [] X.env := by rfl) (hpl : (backTo pos (starEach [.Name n1 p1] X.env)).any (·.1) = false := by rfl) :
    JE X g (.Call (.Name "isinstance" p) [a, .Name n1 p1] [] pos) (dUn (fIsX all yes) da) :=
  PE.cq (pe_callB call_isX hg hm (by decide +kernel) (pa_cons ha (pa_cons (pe_glob (v := .ref (He.ga X.K n1)) hg1 (T.1 n1 List.mem_cons_self) rfl hd1) pa_nil h2) h1) (by decide) (by decide) h1 hpl) fun pins s σ H Q I q => by
    obtain ⟨l, s, rfl, ok, q⟩ := q
    refine ⟨l, s, rfl, ok, Run.mono (Run.bind q) fun u H1 ⟨l1, s1, v, e1, ok1, r1, st1, h3⟩ => ?_⟩
    subst e1
    cases v with
    | exc c ns xs =>
      simp only [fIsX] at h3
      by_cases hc : c ∈ all
      · rw [if_pos hc] at h3
        obtain ⟨ad, rfl, hO⟩ := exO_of r1
        obtain ⟨E, k⟩ := T.2 c hc
        exact ⟨ad, _, _, _, _, rfl, fun _ z => z, hO, E, k, h3 l1 _ (Step.refl l1) ok1 rfl⟩
      · rw [if_neg hc] at h3
        exact h3.elim
    | _ => exact h3.elim
/-- isinstance(e, (C, D)) -/
theorem j_isX2 {x1} {tp : Pos} (T : HasIX X.K X.mg [n1, n2] all yes) (hm : X.mg "isinstance" = none) (ha : JE X g a da) (hg : Gl X "isinstance" := by rfl) (hg1 : Gl X n1 := by rfl) (hd1 : (n1 == ("__debug__" : Str)) = false := by decide) (hg2 : Gl X n2 := by rfl) (hd2 : (n2 == ("__debug__" : Str)) = false := by decide)
    (s1 : starEach [a, .Tuple [.Name n1 p1, .Name n2 p2] x1 tp] X.env = (false, eval a X.env) :: starEach [.Tuple [.Name n1 p1, .Name n2 p2] x1 tp] X.env := by rfl) (s2 : starEach [.Tuple [.Name n1 p1, .Name n2 p2] x1 tp] X.env = (false, eval (.Tuple [.Name n1 p1, .Name n2 p2] x1 tp) X.env) :: starEach [] X.env := by rfl)
    (s3 : starEach [.Name n1 p1, .Name n2 p2] X.env = (false, eval (.Name n1 p1) X.env) :: starEach [.Name n2 p2] X.env := by rfl) (s4 : starEach [.Name n2 p2] X.env = (false, eval (.Name n2 p2) X.env) :: starEach [] X.env := by rfl) (hpl : (backTo pos (starEach [.Tuple [.Name n1 p1, .Name n2 p2] x1 tp] X.env)).any (·.1) = false := by rfl) :
    JE X g (.Call (.Name "isinstance" p) [a, .Tuple [.Name n1 p1, .Name n2 p2] x1 tp] [] pos) (dUn (fIsX all yes) da) :=
  PE.cq (pe_callB call_isXT hg hm (by decide +kernel) (pa_cons ha (pa_cons (pe_tup (pa_cons (pe_glob (v := .ref (He.ga X.K n1)) hg1 (T.1 n1 (by simp)) rfl hd1) (pa_cons (pe_glob (v := .ref (He.ga X.K n2)) hg2 (T.1 n2 (by simp)) rfl hd2) pa_nil s4) s3)) pa_nil s2) s1) (by decide) (by decide) s1 hpl) fun pins s σ H Q I q => by
    obtain ⟨l, s, rfl, ok, q⟩ := q
    refine ⟨l, s, rfl, ok, Run.mono (Run.bind q) fun u H1 ⟨l1, s1, v, e1, ok1, r1, st1, h3⟩ => ?_⟩
    subst e1
    refine ⟨by rw [line_eq]; show 2 ≤ _; omega, fun tpA hp => ?_⟩
    cases v with
    | exc c ns xs =>
      simp only [fIsX] at h3
      by_cases hc : c ∈ all
      · rw [if_pos hc] at h3
        have st2 : Step l1 ⟨l1.al, l1.M, upd l1.H tpA (.tup [.ref (He.ga X.K n1), .ref (He.ga X.K n2)])⟩ := Step.alloc hp
        have ok2 := ok1.alloc (o := .tup [.ref (He.ga X.K n1), .ref (He.ga X.K n2)]) hp
        obtain ⟨ad, rfl, hO⟩ := exO_of (st2.rep r1)
        obtain ⟨E, k⟩ := T.2 c hc
        exact ⟨ad, _, tpA, _, [.ref (He.ga X.K n1), .ref (He.ga X.K n2)], _, rfl, upd_same, .cons (.own _) (.cons (.own _) .nil), hO, E, k, h3 _ _ st2 ok2 rfl⟩
      · rw [if_neg hc] at h3
        exact h3.elim
    | _ => exact h3.elim
end
end L3
namespace LD
noncomputable section
open PySem L3
def b_w_dots_1 : DS := (dSeq (dSet 5 (dBor [3] (dIf (dAndT (dTru (dBin (gEq true) (dVar 3) (dLst dNil))) (dTru (dBin (gEq false) (dFnS F_w_next (dCons (dVar 0) (dCons (dC (.int 4)) dNil))) (dC (.int 0))))) (dBin fIx (dFnS F_w_pick (dCons (dVar 0) (dCons (dVar 3) dNil))) (dC (.int 0))) (dFnS F_w_drawn (dCons (dVar 0) dNil))))) (dSeq (dSet 6 (dBor [3] (dIf (dAndT (dTru (dBin (gEq true) (dVar 3) (dLst dNil))) (dTru (dBin (gEq false) (dFnS F_w_next (dCons (dVar 0) (dCons (dC (.int 5)) dNil))) (dC (.int 0))))) (dBin fIx (dFnS F_w_pick (dCons (dVar 0) (dCons (dVar 3) dNil))) (dC (.int 1))) (dFnS F_w_drawn (dCons (dVar 0) dNil))))) (dExpr (dApp 3 (dTup (dCons (dVar 5) (dCons (dVar 6) dNil)))))))
/-- slots: _law_source_here, _law_least, _law_most, _law_found, _law_turn, _law_near, _law_far -/
def d_w_dots : DS := (dSeq (dOwn 3 (dLstF dNil)) (dSeq (dFor (iRange1 (dCons (dBin gAdd (dVar 1) (dFnS F_w_next (dCons (dVar 0) (dCons (dBin gAdd (dBin gSub (dVar 2) (dVar 1)) (dC (.int 1))) dNil)))) dNil)) (gN 4) b_w_dots_1) (dFrz [3] (dRet (dVar 3)))))
def F_w_dots : DF := runBody 7 d_w_dots
def e_w_paired_1 : DE := (dFn fTuple (dCons (dFnS F_w_given (dCons (dLst (dCons (dVar 1) (dCons (dVar 2) dNil))) dNil)) dNil))
/-- slots: _law_dots_here, _law_near, _law_far -/
def d_w_paired : DS := (dRet (dFr (dComp (iSeq (dVar 0)) (gT 2 (gCons (gN 1) (gCons (gN 2) gNil))) dYes e_w_paired_1 [1, 2])))
def F_w_paired : DF := runBody 3 d_w_paired
/-- slots: value -/
def d_is_pair : DS := (dRet (dAnd (dUn (fIsi bTup) (dVar 0)) (dAnd (dBin (gEq false) (dFn fLen (dCons (dVar 0) dNil)) (dC (.int 2))) (dAnd (dFnS F_is_number (dCons (dBin fIx (dVar 0) (dC (.int 0))) dNil)) (dFnS F_is_number (dCons (dBin fIx (dVar 0) (dC (.int 1))) dNil))))))
def F_is_pair : DF := runBody 1 d_is_pair
def b_need_pairs_1 : DS := (dIfS (dNotT (dTru (dFnS F_is_pair (dCons (dVar 2) dNil)))) (dRaise "BadPairs" "index" (dVar 1)) dSkip)
def e_need_pairs_2 : DE := (dTup (dCons (dFnS F_ratio_of (dCons (dVar 3) dNil)) (dCons (dFnS F_ratio_of (dCons (dVar 4) dNil)) dNil)))
/-- slots: pairs, index, pair, x, y -/
def d_need_pairs : DS := (dSeq (dIfS (dNotT (dTru (dFnS F_is_row (dCons (dVar 0) dNil)))) (dRaise "BadPairs" "index" (dC .non)) dSkip) (dSeq (dFor (iEnumQ (dCons (dVar 0) dNil)) (gT 2 (gCons (gN 1) (gCons (gN 2) gNil))) b_need_pairs_1) (dRet (dFr (dComp (iSeq (dVar 0)) (gT 2 (gCons (gN 3) (gCons (gN 4) gNil))) dYes e_need_pairs_2 [3, 4])))))
def F_need_pairs : DF := runBody 5 d_need_pairs
def b_w_word_1 : DS := (dIfS (dTru (dVar 3)) (dRet (dTup (dCons (dVar 2) (dCons (dUn (fEFld ["BadNumber", "BadShare", "BadRule", "BadAmount", "BadSummary"] "value") (dVar 0)) dNil)))) dSkip)
def b_w_word_2 : DS := (dIfS (dTru (dVar 3)) (dRet (dTup (dCons (dVar 2) (dCons (dUn (fEFld ["BadSample", "BadWeights", "BadPairs", "BadEdges"] "index") (dVar 0)) dNil)))) dSkip)
/-- slots: _law_error, _law_kinds, _law_word_here, _law_is_it -/
def d_w_word : DS := (dSeq (dSet 1 (dLst (dCons (dTup (dCons (dC (.str ("number" : Str))) (dCons (dUn (fIsX ["BadInput", "Absent", "Undefined", "BadNumber", "BadSample", "BadWeights", "BadPairs", "BadShare", "BadRule", "BadAmount", "BadEdges", "BadSummary", "Empty", "TooFew", "NotThere", "DividedByZero", "NoSpread", "Impossible", "Unbounded", "TooMany"] ["BadNumber"]) (dVar 0)) dNil))) (dCons (dTup (dCons (dC (.str ("share" : Str))) (dCons (dUn (fIsX ["BadInput", "Absent", "Undefined", "BadNumber", "BadSample", "BadWeights", "BadPairs", "BadShare", "BadRule", "BadAmount", "BadEdges", "BadSummary", "Empty", "TooFew", "NotThere", "DividedByZero", "NoSpread", "Impossible", "Unbounded", "TooMany"] ["BadShare"]) (dVar 0)) dNil))) dNil)))) (dSeq (dSet 1 (dBin gAdd (dVar 1) (dLst (dCons (dTup (dCons (dC (.str ("rule" : Str))) (dCons (dUn (fIsX ["BadInput", "Absent", "Undefined", "BadNumber", "BadSample", "BadWeights", "BadPairs", "BadShare", "BadRule", "BadAmount", "BadEdges", "BadSummary", "Empty", "TooFew", "NotThere", "DividedByZero", "NoSpread", "Impossible", "Unbounded", "TooMany"] ["BadRule"]) (dVar 0)) dNil))) (dCons (dTup (dCons (dC (.str ("amount" : Str))) (dCons (dUn (fIsX ["BadInput", "Absent", "Undefined", "BadNumber", "BadSample", "BadWeights", "BadPairs", "BadShare", "BadRule", "BadAmount", "BadEdges", "BadSummary", "Empty", "TooFew", "NotThere", "DividedByZero", "NoSpread", "Impossible", "Unbounded", "TooMany"] ["BadAmount"]) (dVar 0)) dNil))) dNil))))) (dSeq (dFor (iSeq (dBin gAdd (dVar 1) (dLst (dCons (dTup (dCons (dC (.str ("summary" : Str))) (dCons (dUn (fIsX ["BadInput", "Absent", "Undefined", "BadNumber", "BadSample", "BadWeights", "BadPairs", "BadShare", "BadRule", "BadAmount", "BadEdges", "BadSummary", "Empty", "TooFew", "NotThere", "DividedByZero", "NoSpread", "Impossible", "Unbounded", "TooMany"] ["BadSummary"]) (dVar 0)) dNil))) dNil)))) (gT 2 (gCons (gN 2) (gCons (gN 3) gNil))) b_w_word_1) (dSeq (dSet 1 (dLst (dCons (dTup (dCons (dC (.str ("sample" : Str))) (dCons (dUn (fIsX ["BadInput", "Absent", "Undefined", "BadNumber", "BadSample", "BadWeights", "BadPairs", "BadShare", "BadRule", "BadAmount", "BadEdges", "BadSummary", "Empty", "TooFew", "NotThere", "DividedByZero", "NoSpread", "Impossible", "Unbounded", "TooMany"] ["BadSample"]) (dVar 0)) dNil))) (dCons (dTup (dCons (dC (.str ("weights" : Str))) (dCons (dUn (fIsX ["BadInput", "Absent", "Undefined", "BadNumber", "BadSample", "BadWeights", "BadPairs", "BadShare", "BadRule", "BadAmount", "BadEdges", "BadSummary", "Empty", "TooFew", "NotThere", "DividedByZero", "NoSpread", "Impossible", "Unbounded", "TooMany"] ["BadWeights"]) (dVar 0)) dNil))) dNil)))) (dSeq (dFor (iSeq (dBin gAdd (dVar 1) (dLst (dCons (dTup (dCons (dC (.str ("pairs" : Str))) (dCons (dUn (fIsX ["BadInput", "Absent", "Undefined", "BadNumber", "BadSample", "BadWeights", "BadPairs", "BadShare", "BadRule", "BadAmount", "BadEdges", "BadSummary", "Empty", "TooFew", "NotThere", "DividedByZero", "NoSpread", "Impossible", "Unbounded", "TooMany"] ["BadPairs"]) (dVar 0)) dNil))) (dCons (dTup (dCons (dC (.str ("edges" : Str))) (dCons (dUn (fIsX ["BadInput", "Absent", "Undefined", "BadNumber", "BadSample", "BadWeights", "BadPairs", "BadShare", "BadRule", "BadAmount", "BadEdges", "BadSummary", "Empty", "TooFew", "NotThere", "DividedByZero", "NoSpread", "Impossible", "Unbounded", "TooMany"] ["BadEdges"]) (dVar 0)) dNil))) dNil))))) (gT 2 (gCons (gN 2) (gCons (gN 3) gNil))) b_w_word_2) (dSeq (dIfS (dTru (dUn (fIsX ["BadInput", "Absent", "Undefined", "BadNumber", "BadSample", "BadWeights", "BadPairs", "BadShare", "BadRule", "BadAmount", "BadEdges", "BadSummary", "Empty", "TooFew", "NotThere", "DividedByZero", "NoSpread", "Impossible", "Unbounded", "TooMany"] ["TooFew"]) (dVar 0))) (dRet (dTup (dCons (dC (.str ("few" : Str))) (dCons (dUn (fEFld ["TooFew"] "needed") (dVar 0)) dNil)))) dSkip) (dSeq (dIfS (dTru (dUn (fIsX ["BadInput", "Absent", "Undefined", "BadNumber", "BadSample", "BadWeights", "BadPairs", "BadShare", "BadRule", "BadAmount", "BadEdges", "BadSummary", "Empty", "TooFew", "NotThere", "DividedByZero", "NoSpread", "Impossible", "Unbounded", "TooMany"] ["NotThere", "TooMany"]) (dVar 0))) (dRet (dIf (dTru (dUn (fIsX ["BadInput", "Absent", "Undefined", "BadNumber", "BadSample", "BadWeights", "BadPairs", "BadShare", "BadRule", "BadAmount", "BadEdges", "BadSummary", "Empty", "TooFew", "NotThere", "DividedByZero", "NoSpread", "Impossible", "Unbounded", "TooMany"] ["NotThere"]) (dVar 0))) (dTup (dCons (dC (.str ("not there" : Str))) (dCons (dUn (fEFld ["NotThere"] "item") (dVar 0)) dNil))) (dTup (dCons (dC (.str ("many" : Str))) (dCons (dUn (fEFld ["TooMany"] "most") (dVar 0)) dNil))))) dSkip) (dSeq (dSet 1 (dLst (dCons (dTup (dCons (dC (.str ("empty" : Str))) (dCons (dUn (fIsX ["BadInput", "Absent", "Undefined", "BadNumber", "BadSample", "BadWeights", "BadPairs", "BadShare", "BadRule", "BadAmount", "BadEdges", "BadSummary", "Empty", "TooFew", "NotThere", "DividedByZero", "NoSpread", "Impossible", "Unbounded", "TooMany"] ["Empty"]) (dVar 0)) dNil))) (dCons (dTup (dCons (dC (.str ("spread" : Str))) (dCons (dUn (fIsX ["BadInput", "Absent", "Undefined", "BadNumber", "BadSample", "BadWeights", "BadPairs", "BadShare", "BadRule", "BadAmount", "BadEdges", "BadSummary", "Empty", "TooFew", "NotThere", "DividedByZero", "NoSpread", "Impossible", "Unbounded", "TooMany"] ["NoSpread"]) (dVar 0)) dNil))) dNil)))) (dSeq (dSet 1 (dBin gAdd (dVar 1) (dLst (dCons (dTup (dCons (dC (.str ("impossible" : Str))) (dCons (dUn (fIsX ["BadInput", "Absent", "Undefined", "BadNumber", "BadSample", "BadWeights", "BadPairs", "BadShare", "BadRule", "BadAmount", "BadEdges", "BadSummary", "Empty", "TooFew", "NotThere", "DividedByZero", "NoSpread", "Impossible", "Unbounded", "TooMany"] ["Impossible"]) (dVar 0)) dNil))) (dCons (dTup (dCons (dC (.str ("unbounded" : Str))) (dCons (dUn (fIsX ["BadInput", "Absent", "Undefined", "BadNumber", "BadSample", "BadWeights", "BadPairs", "BadShare", "BadRule", "BadAmount", "BadEdges", "BadSummary", "Empty", "TooFew", "NotThere", "DividedByZero", "NoSpread", "Impossible", "Unbounded", "TooMany"] ["Unbounded"]) (dVar 0)) dNil))) dNil))))) (dRet (dTup (dCons (dBin fIx (dBin gAdd (dFr (dComp (iSeq (dVar 1)) (gT 2 (gCons (gN 2) (gCons (gN 3) gNil))) (dTru (dVar 3)) (dVar 2) [2, 3])) (dLst (dCons (dC (.str ("other" : Str))) dNil))) (dC (.int 0))) (dCons (dC .non) dNil)))))))))))))
def F_w_word : DF := runBody 4 d_w_word
def h_w_told_k28_1 (t : Clo) (xs : List PV) (B : DB) : DS := (dSet 1 (dVar 3))
def b_w_told_k28_2 (t : Clo) (xs : List PV) (B : DB) : DS := (dSet 2 (dLst (dCons (dAct 0 t xs B) dNil)))
/-- slots: _law_call, _law_error, _law_found, e -/
def d_w_told_k28 (t : Clo) (xs : List PV) (B : DB) : DS := (dSeq (dAsg (dTup (dCons (dC .non) (dCons (dC .non) dNil))) (gT 2 (gCons (gN 1) (gCons (gN 2) gNil)))) (dSeq (dTryAs ["BadInput", "Absent", "Undefined", "BadNumber", "BadSample", "BadWeights", "BadPairs", "BadShare", "BadRule", "BadAmount", "BadEdges", "BadSummary", "Empty", "TooFew", "NotThere", "DividedByZero", "NoSpread", "Impossible", "Unbounded", "TooMany"] 3 (h_w_told_k28_1 t xs B) (b_w_told_k28_2 t xs B)) (dRet (dIf (dTru (dBin (fIsN false) (dVar 1) (dC .non))) (dVar 2) (dFnS F_w_word (dCons (dVar 1) dNil))))))
def F_w_told_k28 (t : Clo) (xs : List PV) (B : DB) : DF := runBody 4 (d_w_told_k28 t xs B)
end
end LD
namespace L3
open PySem PySem.Spec PyProof.Rows L2
@[simp] def catF : PV → PV → S → R S (List PV) := fun p q s => match p, q with
  | .lst xs, .lst ys => if xs.length + ys.length ≤ 16777216 then .ok (xs ++ ys) s else .bad
  | _, _ => .bad
@[simp] def dCatF (da db : DE) : DL := fun s => (da s).bind fun p s1 => (db s1).bind fun q s2 => catF p q s2
end L3
namespace LD
end LD
namespace L3
open PySem PySem.Spec PyProof.Rows L2
def insN (mu : List MO) : PV → Option (Str × List Str × List PV)
  | .ptr n => (match mu[n]? with
    | some (.nst c ns xs) => some (c, ns, xs)
    | _ => none)
  | _ => none
@[simp] theorem insN_ptr {mu : List MO} {n : Nat} : insN mu (.ptr n) = (match mu[n]? with | some (.nst c ns xs) => some (c, ns, xs) | _ => none) := rfl
theorem rep_nst {K : PySem.W.Frag} {g : Gx} {l : Lc} {s : S} {σ : St} {p : PV} {x : V} {c : Str} {ns : List Str} {xs : List PV} (ok : Sok K g l s σ) (r : RepG K g l p x) (h : insN s.mu p = some (c, ns, xs)) :
    ∃ n a dx vs, p = .ptr n ∧ s.mu[n]? = some (.nst c ns xs) ∧ l.al[n]? = some a ∧ x = .ref a ∧ l.H a = some (.ins (He.ga K c) dx (ns.zip vs)) ∧ ns.length = vs.length ∧ RepGL K g l xs vs := by
  cases p with
  | ptr n =>
    obtain ⟨a, ha, rfl⟩ := r
    simp only [insN] at h
    cases e : s.mu[n]? with
    | none => rw [e] at h; cases h
    | some m =>
      rw [e] at h
      cases m with
      | lst ys => cases h
      | dic ks ys => cases h
      | ins c ks ys => cases h
      | nst C' ns' ys =>
        cases h
        obtain ⟨dx, vs, h1, h2, h3⟩ := ok.mu n a _ ha e
        exact ⟨n, a, dx, vs, rfl, e, ha, rfl, h1, h2, h3⟩
  | _ => cases h
def ClsFN (K : PySem.W.Frag) (cs : List Str) (f : Str) : Prop := ∀ c ∈ cs, Cls K (He.ga K c) ∧ NoAttr K (He.ga K c) f
@[simp] def fFldN (cs : List Str) (f : Str) : PV → S → R S PV := fun p s => match insN s.mu p with
  | some (c, ns, xs) => if c ∈ cs then optR (getV f ns xs) s else .bad
  | none => .bad
@[simp] def dFPutN (cs : List Str) (f : Str) (ob de : DE) : DS := fun s => (de s).bind fun v s1 => (ob s1).bind fun o s2 => match o with
  | .ptr n => (match s2.mu[n]? with
    | some (.nst c ns xs) => if c ∈ cs ∧ ns.length < 1000 then .ok .nx ⟨s2.env, s2.mu.set n (.nst c (putN f ns) (putV f v ns xs))⟩ else .bad
    | _ => .bad)
  | _ => .bad
section
variable {X : Cx} {g : Gx} {a b c e o : Expr} {es : List Expr} {da db dc de dob : DE} {dr : DA} {pos : Pos} {p apos : Pos}
theorem j_fldN {cs : List Str} {fl : Str} (T : ClsFN X.K cs fl) (he : JE X g e de) (hb : attributeBase e fl X.env (eval e X.env) = eval e X.env := by rfl) : JE X g (.Attribute e fl pos) (dUn (fFldN cs fl) de) := PE.cq (pe_fld he hb) fun pins s σ H Q I q => by
  obtain ⟨l, s, rfl, ok, q⟩ := q
  refine ⟨l, s, rfl, ok, Run.mono (Run.bind q) fun u H1 ⟨l1, s1, v, e1, ok1, r1, st1, h1⟩ => ?_⟩
  subst e1
  simp only [fFldN] at h1
  cases e2 : insN s1.mu v with
  | none => rw [e2] at h1; exact h1.elim
  | some z =>
    obtain ⟨C, ns, xs⟩ := z
    rw [e2] at h1
    simp only at h1
    by_cases hc : C ∈ cs
    · rw [if_pos hc] at h1
      cases e3 : L3.getV fl ns xs with
      | none => simp only [e3, optR] at h1; exact h1.elim
      | some y =>
        simp only [e3, optR] at h1
        obtain ⟨n, a, dx, vs, _, _, _, rfl, h2, h3, h4⟩ := rep_nst ok1 r1 e2
        obtain ⟨w, hw, rw'⟩ := h4.getV e3
        exact ⟨a, He.ga X.K C, dx, _, w, rfl, h2, (T C hc).1, (T C hc).2, by rw [lookup_zip]; exact hw, h1 l1 w (Step.refl l1) ok1 rw'⟩
    · rw [if_neg hc] at h1
      exact h1.elim
@[simp] def dMethN (m : Str) (tb : List (Str × (List PV → S → R S PV))) (d : DE) (dr : DA) : DE := fun s => (d s).bind fun p s1 => match insN s1.mu p with
  | some (c, ns, _) => (match tb.lookup c with
    | some fn => if m ∈ ns then .bad else (dr s1).bind fun ps s2 => fn (p :: ps) s2
    | none => .bad)
  | none => .bad
def PTab (X : Cx) (g : Gx) (k : Nat) (m : Str) (tb : List (Str × DF)) : Prop := ∀ c F, tb.lookup c = some F → Cls X.K (He.ga X.K c) ∧ ∃ pA gA fd, PropOf X.K (He.ga X.K c) m pA gA ∧ FJ X.prog X.w X.K X.mg X.base g.CR k gA fd ["self"] F ∧ Binds X.K fd ["self"] []
@[simp] def fPropN (tb : List (Str × DF)) : PV → S → R S PV := fun p s => match insN s.mu p with
  | some (c, _, _) => (match tb.lookup c with
    | some F => fnQ F [p] s
    | none => .bad)
  | none => .bad
theorem j_propN {k : Nat} {fl : Str} {tb : List (Str × DF)} (T : PTab X g k fl tb) (hr : Room (k + 1) X.A) (he : JE X g e de) (hab : attributeBase e fl X.env (eval e X.env) = eval e X.env := by rfl) :
    JE X g (.Attribute e fl pos) (dUn (fPropN tb) de) :=
  ⟨fun pins s σ H Q I h => by
    obtain ⟨l, st, rfl, ok, h⟩ := h
    refine attr_of hab (thn (he.run pins s σ _ _ I ⟨l, st, rfl, ok, Run.bind h⟩) fun u s1 ⟨x, H1, I1, rx, l1, s1', v, e1, ok1, r1, st1, h1⟩ => ?_)
    subst e1
    simp only [fPropN] at h1
    cases e2 : insN s1'.mu v with
    | none => rw [e2] at h1; exact h1.elim
    | some z =>
      obtain ⟨C, ns, xs⟩ := z
      rw [e2] at h1
      simp only at h1
      cases e3 : tb.lookup C with
      | none => rw [e3] at h1; exact h1.elim
      | some F =>
        rw [e3] at h1
        simp only at h1
        obtain ⟨n, a, dx, vs, rfl, hmu, hal, rfl, hH, hlen, hrs⟩ := rep_nst ok1 r1 e2
        obtain rfl : u = Value.ref a := rx
        obtain ⟨TC, pA, gA, fd, hp, G, hb⟩ := T C F e3
        exact propG (E := fun _ _ _ => False) I1 hH TC hp G hr hb .nil (fun s e s' I c => by
          obtain ⟨_, _, _, _, _, _, _, _, _, _, _, _, z⟩ := c
          exact z.elim) (quiet_asks ok1 (ps := [.ptr n]) ⟨.ref a, [], rfl, ⟨a, hal, rfl⟩, rfl⟩ rfl h1)⟩
end
end L3
namespace L3
open PySem PySem.Spec PyProof.Rows L2
/-- C(e, ..) by __init__'s promise, an exception at its place -/
theorem makeX {k : Nat} {f C : Addr} {fd : FuncData} {ps : List Str} {sp : Sp} {E : XK} {X : Cx} {pins : List (Addr × Obj)} {σ : St} {H : Hp} {s : Shared} {Q : VK} {us : List Value} {kw : List (Str × Value)} {vs' : Addr → List V} (M : Mk X.K C f)
    (F : FnG X.prog X.w X.K X.mg X.base (L2.CX X.prog X.w) k f fd ps sp) (hr : Room (k + 1) X.A) (hx : PassesAt (L2.CX X.prog X.w) X σ E) (I : Inv X pins σ H s)
    (hb : ∀ (s : Shared) (x : Addr), X.K.In s.heap → ∃ us' : List Value, BindsTo s fd ⟨.ref x :: us, kw⟩ (ps.zip us') ∧ Vals (vs' x) us')
    (h : ∀ x dx, H x = none → H dx = none → dx ≠ x → sp (vs' x) (upd (upd H dx (.own x)) x (.ins C dx [])) (fun v H2 => v = .non ∧ Q (.ref x) H2) E) :
    wpAny (model X.prog X.w) X.A (call (.ref C) us kw) (EP X pins σ Q) X.xe s := by
  let n := s.heap.objs.size
  have q1 := h (n + 1) n (I.hok.fresh (Nat.le_succ _)) (I.hok.fresh (Nat.le_refl _)) (Nat.ne_of_lt (Nat.lt_succ_self _))
  have J := Inv.made (C := C) I
  obtain ⟨us', hb1, rr⟩ := hb _ (n + 1) J.kIn
  refine wpAny_call (make_map (f := f) I.kIn M.makes M.init (beq_iff_eq.mp M.fn) (codeAny_mono (F.run _ X.stack _ _ ⟨Value.ref (n + 1) :: us, kw⟩ us' _ _ E (hr.make C us kw) (J.env0.make C us kw) hb1 rr q1) fun r s' z => ?_))
  match r, z with
  | .error e, z => exact hx pins _ _ e s' J z
  | .ok (.ret u), z =>
    obtain ⟨v, H', I3, rv, rfl, q3⟩ := J.after z
    exact ⟨rv, ⟨V.ref (n + 1), H', I3, rfl, q3⟩⟩
  | .ok .next, z => exact False.elim z
  | .ok .brk, z => exact False.elim z
  | .ok .cont, z => exact False.elim z
section
variable {K : PySem.W.Frag} {g : Gx} {l : Lc} {s : S} {σ : St} {p : Addr}
theorem Sok.muNewO (ok : Sok K g l s σ) {H1 : Hp} {m : MO} (hp : l.H p = none) (kp : ∀ a o, l.H a = some o → H1 a = some o) (hn : H1 p ≠ none) (hm : MoRep K g ⟨l.al ++ [p], fun a => l.M a ∨ a = p, H1⟩ p m) :
    Step l ⟨l.al ++ [p], fun a => l.M a ∨ a = p, H1⟩ ∧ Sok K g ⟨l.al ++ [p], fun a => l.M a ∨ a = p, H1⟩ ⟨s.env, s.mu ++ [m]⟩ σ := by
  have there : ∀ {a}, l.H a ≠ none → H1 a ≠ none := fun {a} h => by
    cases q : l.H a with
    | none => exact absurd q h
    | some o => rw [kp a o q]; simp
  have st : Step l ⟨l.al ++ [p], fun a => l.M a ∨ a = p, H1⟩ := ⟨⟨[p], rfl⟩, fun a h => by
      rcases h with h | h
      · exact .inl h
      · exact .inr (by rw [h]; exact hp), fun a o _ h => kp a o h, fun a h => there h⟩
  have nal : p ∉ l.al := fun z => ok.there p (.inl (ok.alM p z)) hp
  refine ⟨st, ok.len, fun j v h => ?_, fun j zs h => ?_, ok.dis, by show (l.al ++ [p]).length = (s.mu ++ [_]).length; rw [List.length_append, List.length_append, ok.mlen]; rfl, fun m' b o h1 h2 => ?_, ?_, fun a h => ?_, fun b h => ?_, fun b h => ?_, fun x hx => ?_⟩
  rotate_right
  · have ne : tA K x ≠ p := (ok.tabs x hx).ne0 hp
    exact (ok.tabs x hx).to (.inl (ok.tabs x hx).M) (fun z => by
      rcases List.mem_append.mp z with z | z
      · exact (ok.tabs x hx).al z
      · exact ne (List.mem_singleton.mp z)) (fun ps q => kp _ _ q) fun c q n e => st.repL' c _ n e
  · obtain ⟨u, h1, h2⟩ := ok.env j v h
    exact ⟨u, h1, st.rep h2⟩
  · obtain ⟨b, ws, h1, h2, h3, h4, h5⟩ := ok.own j zs h
    have nb : b ≠ p := ne_of_none h4 hp
    exact ⟨b, ws, h1, .inl h2, fun z => by
      rcases List.mem_append.mp z with z | z
      · exact h3 z
      · exact nb (by simpa using z), kp _ _ h4, st.reps h5⟩
  · have h1' : (l.al ++ [p])[m']? = some b := h1
    have h2' : (s.mu ++ [m])[m']? = some o := h2
    by_cases e : m' < l.al.length
    · rw [List.getElem?_append_left e] at h1'
      rw [List.getElem?_append_left (by rw [← ok.mlen]; exact e)] at h2'
      have q := ok.mu m' b o h1' h2'
      cases o with
      | lst zs =>
        obtain ⟨ws, q1, q2⟩ := q
        exact ⟨ws, kp _ _ q1, st.reps q2⟩
      | ins C ns zs =>
        obtain ⟨dx, ws, q1, q2, q3⟩ := q
        exact ⟨dx, ws, kp _ _ q1, q2, st.reps q3⟩
      | nst C ns zs =>
        obtain ⟨dx, ws, q1, q2, q3⟩ := q
        exact ⟨dx, ws, kp _ _ q1, q2, st.reps q3⟩
      | dic ns zs =>
        obtain ⟨ws, q1, q2, q9, q3⟩ := q
        exact ⟨ws, kp _ _ q1, q2, q9, st.reps q3⟩
    · by_cases e2 : m' = l.al.length
      · subst e2
        rw [List.getElem?_append_right (Nat.le_refl _), Nat.sub_self] at h1'
        rw [ok.mlen, List.getElem?_append_right (Nat.le_refl _), Nat.sub_self] at h2'
        cases h1'
        cases h2'
        exact hm
      · rw [List.getElem?_eq_none (by rw [List.length_append]; show l.al.length + 1 ≤ m'; omega)] at h1'
        cases h1'
  · refine List.nodup_append.mpr ⟨ok.nd, by simp, fun a ha b hb => ?_⟩
    rw [List.mem_singleton] at hb
    rw [hb]
    exact fun z => nal (by rw [← z]; exact ha)
  · rcases List.mem_append.mp h with h | h
    · exact .inl (ok.alM a h)
    · exact .inr (by simpa using h)
  · rcases h with (h | h) | h
    · exact there (ok.there b (.inl h))
    · rw [h]; exact hn
    · exact there (ok.there b (.inr h))
  · rcases h with h | h
    · exact ok.mn b h
    · rw [h]
      exact fun z => ok.there p (.inr z) hp
end
/-- C(..): the instance without fields, then __init__ over all of its parameters -/
@[simp] def newG (c : Str) (F : DF) (as : PV → List PV) (s : S) : R S PV := match F (as (.ptr s.mu.length)) (s.mu ++ [.nst c [] []]) with
  | .ok .non mu => .ok (.ptr s.mu.length) ⟨s.env, mu⟩
  | .exn e mu => .exn e ⟨s.env, mu⟩
  | _ => .bad
def HasNew (P : Program) (w : World) (K : PySem.W.Frag) (mg : Str → Option Value) (base : Heap) (CR : Addr) (c : Str) (k : Nat) (ps : List Str) (n : Nat) (ks : List Str) (gP : List PV → List PV → List PV) (F : DF) : Prop :=
  (∀ us zs : List PV, us.length = n + 1 → zs.length = ks.length → (gP us zs).length = ps.length) ∧ mg c = some (.ref (He.ga K c)) ∧
  ∃ f fd g gV, Mk K (He.ga K c) f ∧ KBn K fd ps (n + 1) ks g gV ∧ (∀ (CR : Addr) (al : List Addr) (L : Addr → Prop) (H : Hp) us zs vs ws, us.length = n + 1 → zs.length = ks.length → RepL K CR al L H us vs → RepL K CR al L H zs ws → RepL K CR al L H (gP us zs) (gV vs ws)) ∧ FJ P w K mg base CR k f fd ps F
section
variable {X : Cx} {g : Gx} {σ : St}
/-- what a new instance's __init__ is asked -/
theorem new_asks {c : Str} {F : DF} {n : Nat} {l : Lc} {s : S} {as : PV → List PV} {us : List V} {Q : VK} (ok : Sok X.K g l s σ) (x dx : Addr) (hx : l.H x = none) (hd : l.H dx = none) (hn : dx ≠ x)
    (r : ∀ l1, Step l l1 → l1.al[s.mu.length]? = some x → RepGL X.K g l1 (as (.ptr s.mu.length)) us) (hl : (as (.ptr s.mu.length)).length = n) (run : Run X.K g (newG c F as s) l σ Q) :
    spJ X.K g.CR n F us (upd (upd l.H dx (.own x)) x (.ins (He.ga X.K c) dx [])) (fun v H2 => v = .non ∧ Q (.ref x) H2) (fun c dd H => g.W c dd σ H) := by
  have kept : ∀ a o, l.H a = some o → upd (upd l.H dx (.own x)) x (.ins (He.ga X.K c) dx []) a = some o := fun a o h => by
    rw [upd_ne (ne_of_none h hx), upd_ne (ne_of_none h hd)]; exact h
  obtain ⟨st, ok1⟩ := ok.muNewO (m := .nst c [] []) (H1 := upd (upd l.H dx (.own x)) x (.ins (He.ga X.K c) dx [])) hx kept (by rw [upd_same]; simp) ⟨dx, [], upd_same, rfl, rfl⟩
  have hal : (l.al ++ [x])[s.mu.length]? = some x := by rw [← ok.mlen]; simp
  refine call_asks (l := ⟨l.al ++ [x], fun a => l.M a ∨ a = x, upd (upd l.H dx (.own x)) x (.ins (He.ga X.K c) dx [])⟩) (s := ⟨s.env, s.mu ++ [.nst c [] []]⟩) (ps := as (.ptr s.mu.length)) ok1 (r _ st hal) hl ?_
  have run : Run X.K g (newG c F as s) ⟨l.al ++ [x], fun a => l.M a ∨ a = x, upd (upd l.H dx (.own x)) x (.ins (He.ga X.K c) dx [])⟩ σ Q := Run.step run st
  unfold newG at run
  show Run X.K g (match F (as (.ptr s.mu.length)) (s.mu ++ [.nst c [] []]) with | .ok v mu => .ok v ⟨s.env, mu⟩ | .exn e mu => .exn e ⟨s.env, mu⟩ | .bad => .bad) _ σ _
  cases e : F (as (.ptr s.mu.length)) (s.mu ++ [.nst c [] []]) with
  | bad => rw [e] at run; exact run
  | exn e mu => rw [e] at run; exact run
  | ok v mu =>
    rw [e] at run
    cases v with
    | non =>
      intro l' u st' ok' rp
      have eu : u = V.non := rp
      refine ⟨eu, run l' (.ref x) st' ok' ⟨x, ?_, rfl⟩⟩
      exact st'.al s.mu.length x hal
    | _ => exact run.elim
theorem run_new {c : Str} {k n : Nat} {ps ks : List Str} {gP : List PV → List PV → List PV} {F : DF} {pins : List (Addr × Obj)} {s2 : Shared} {l2 : Lc} {st2 : S} {xs qs : List PV} {vs zs : List V} {us ws : List Value} {Q : VK}
    (h : HasNew X.prog X.w X.K X.mg X.base g.CR c k ps n ks gP F) (hr : Room (k + 1) X.A) (tk : Takes X g.W) (I2 : Inv X pins σ l2.H s2) (r : Vals vs us) (rz : Vals zs ws) (ok2 : Sok X.K g l2 st2 σ) (r1 : RepGL X.K g l2 xs vs) (r2 : RepGL X.K g l2 qs zs)
    (run : Run X.K g (if xs.length = n ∧ qs.length = ks.length then newG c F (fun p => gP (p :: xs) qs) st2 else .bad) l2 σ Q) : wpAny (model X.prog X.w) X.A (call (.ref (He.ga X.K c)) us (ks.zip ws)) (EP X pins σ Q) X.xe s2 := by
  obtain ⟨hn, hm, f, fd, g', gV, M, hb, hfl, G⟩ := h
  by_cases z : xs.length = n ∧ qs.length = ks.length
  · rw [if_pos z] at run
    have l1 : us.length = n := r.length.symm.trans (r1.length.symm.trans z.1)
    have lz : ws.length = ks.length := rz.length.symm.trans (r2.length.symm.trans z.2)
    refine makeX (E := fun c dd H => g.W c dd σ H) (vs' := fun x => gV (.ref x :: vs) zs) M G hr (passAt tk σ) I2 (fun s x hin => ?_) fun x dx hx hd hne => ?_
    · exact ⟨_, hb.to s (.ref x :: us) ws hin (by rw [List.length_cons, l1]) lz, hb.rel (.cons rfl r) rz⟩
    · exact new_asks ok2 x dx hx hd hne (fun l1 st hal => hfl _ _ _ _ (.ptr st2.mu.length :: xs) qs _ zs (by rw [List.length_cons, z.1]) z.2 ⟨.ref x, vs, rfl, ⟨x, hal, rfl⟩, st.reps r1⟩ (st.reps r2)) (hn _ _ (by rw [List.length_cons, z.1]) z.2) run
  · rw [if_neg z] at run
    exact run.elim
end
@[simp] def dNewK (c : Str) (F : DF) (n m : Nat) (gP : List PV → List PV → List PV) (da dk : DA) : DE := fun s => (da s).bind fun ps s1 => (dk s1).bind fun zs s2 => if ps.length = n ∧ zs.length = m then newG c F (fun p => gP (p :: ps) zs) s2 else .bad
section
variable {X : Cx} {g : Gx} {e : Expr} {es : List Expr} {dr dk : DA} {pos p : Pos} {c : Str} {k n : Nat} {ps : List Str} {F : DF} {gP : List PV → List PV → List PV}
/-- C(e, ..) -/
theorem j_newA (h : HasNew X.prog X.w X.K X.mg X.base g.CR c k ps n [] gP F) (kp : PySem.W.keepIn X.K (.ref (He.ga X.K c)) = true) (hr : Room (k + 1) X.A) (tk : Takes X g.W) (ha : JA X g (e :: es) dr) (hg : Gl X c := by rfl)
    (hdb : (c == ("__debug__" : Str)) = false := by decide) (he : starEach (e :: es) X.env = (false, eval e X.env) :: starEach es X.env := by rfl) (hpl : (backTo pos (starEach es X.env)).any (·.1) = false := by rfl) :
    JE X g (.Call (.Name c p) (e :: es) [] pos) (dNewK c F n 0 gP dr dNil) := by
  refine ⟨fun pins s σ H Q I q => ?_⟩
  obtain ⟨l, st, rfl, ok, q⟩ := q
  refine wpAny_Call_Name_kw (ld_glob I hg h.2.1 ?_ hdb)
  refine PySem.W.callWith_K (h₀ := X.base) I.ok.mod.kin kp (thn (ha.run pos pins s σ _ _ I ⟨l, st, rfl, ok, RunA.bind q⟩) fun us s1 ⟨vs, H1, I1, r, l1, s1', xs, e1, ok1, r1, st1, h1⟩ => ⟨I1.kIn, ?_⟩) he hpl
  subst e1
  exact run_new h hr tk I1 r (ws := []) .nil ok1 r1 (qs := []) rfl h1
end
end L3
namespace L3
open PySem PySem.Spec PyProof.Rows L2
@[simp] def dCallN (tb : List (Str × (List PV → S → R S PV))) (d : DE) (dr : DA) : DE := fun s => (d s).bind fun p s1 => match p with
  | .ptr n => (dr s1).bind fun ps s2 => (match insN s2.mu (.ptr n) with
    | some (c, _, _) => (match tb.lookup c with
      | some fn => fn (.ptr n :: ps) s2
      | none => .bad)
    | none => .bad)
  | _ => .bad
end L3
namespace L3
open PySem PySem.Spec PyProof.Rows L2
@[simp] def fMk (n m : Nat) (gP : List PV → List PV → List PV) (F : DF) : List PV → List PV → S → R S PV := fun us zs s => if us.length = n ∧ zs.length = m then fnS F (gP us zs) s else .bad
@[simp] def dMethNK (m : Str) (tb : List (Str × (List PV → List PV → S → R S PV))) (d : DE) (dr dk : DA) : DE := fun s => (d s).bind fun p s1 => match insN s1.mu p with
  | some (c, ns, _) => (match tb.lookup c with
    | some fn => if m ∈ ns then .bad else (dr s1).bind fun ps s2 => (dk s2).bind fun qs s3 => fn (p :: ps) qs s3
    | none => .bad)
  | none => .bad
@[simp] def dCallNK (tb : List (Str × (List PV → List PV → S → R S PV))) (d : DE) (dr dk : DA) : DE := fun s => (d s).bind fun p s1 => match p with
  | .ptr n => (dr s1).bind fun ps s2 => (dk s2).bind fun qs s3 => (match insN s3.mu (.ptr n) with
    | some (c, _, _) => (match tb.lookup c with
      | some fn => fn (.ptr n :: ps) qs s3
      | none => .bad)
    | none => .bad)
  | _ => .bad
end L3
namespace L3
open PySem PySem.Spec PyProof.Rows L2
def gFldT (K : PySem.W.Frag) (f : Str) (to : TE) : TG := fun v σ H Q => to σ H fun x H1 => ∃ a C dx fs, x = .ref a ∧ H1 a = some (.ins C dx fs) ∧ Cls K C ∧ NoAttr K C f ∧ fs.length < 1000 ∧ Q σ (upd H1 a (.ins C dx (L2.putF f v fs)))
theorem pg_fld {X : Cx} {o : Expr} {f : Str} {pos : Pos} {to : TE} (ho : PE X o to) : PG X (.Attribute o f pos) (gFldT X.K f to) := by
  refine ⟨fun pins s σ H v u Q I r h => ?_⟩
  rw [arm_assign_Attribute]
  refine wpAny_bind (wpAny_holding (thn (ho.run pins s σ H _ I h) fun ov s1 ⟨x, H1, I1, rx, a, C, dx, fs, ex, ea, c, n, l, q⟩ => ?_))
  subst ex
  obtain rfl : ov = Value.ref a := rx
  refine wpAny_bind (wpAny_standAt (wpAny_bind (wpAny_holding (setattr_ok I1 ea c n l r fun s2 I2 => ?_))))
  exact wpAny_release ⟨σ, _, I2, q⟩
@[simp] def gFldN (cs : List Str) (f : Str) (ob : DE) : DG := fun v s => match ob s with
  | .ok o s2 => (match o with
    | .ptr n => (match s2.mu[n]? with
      | some (.nst c ns xs) => if c ∈ cs ∧ ns.length < 1000 then .ok () ⟨s2.env, s2.mu.set n (.nst c (putN f ns) (putV f v ns xs))⟩ else .bad
      | _ => .bad)
    | _ => .bad)
  | _ => .bad
theorem jg_fldN {X : Cx} {g : Gx} {cs : List Str} {fl : Str} {o : Expr} {pos : Pos} {dob : DE} (T : ClsFN X.K cs fl) (ho : JE X g o dob) : JG X g [] (.Attribute o fl pos) (gFldN cs fl dob) :=
  PG.cq (pg_fld ho) fun v σ H Q q => by
    obtain ⟨l, s, p, rfl, ok, r, q⟩ := q
    simp only [gFldN] at q
    refine ⟨l, s, rfl, ok, ?_⟩
    cases e1 : dob s with
    | bad => rw [e1] at q; exact q.elim
    | exn x t => rw [e1] at q; exact q.elim
    | ok ob s2 =>
      rw [e1] at q
      simp only at q
      intro l2 y st2 ok2 r2
      cases ob with
      | ptr n =>
        simp only at q
        cases e3 : s2.mu[n]? with
        | none => rw [e3] at q; exact q.elim
        | some z =>
          rw [e3] at q
          cases z with
          | lst xs => exact q.elim
          | dic ks xs => exact q.elim
          | ins c ks xs => exact q.elim
          | nst C ns xs =>
            simp only at q
            by_cases hc : C ∈ cs ∧ ns.length < 1000
            · rw [if_pos hc] at q
              obtain ⟨a, ha, rfl⟩ := r2
              obtain ⟨dx, vs, h3, h4, h5⟩ := ok2.mu n a _ ha e3
              refine ⟨a, He.ga X.K C, dx, _, rfl, h3, (T C hc.1).1, (T C hc.1).2, by rw [List.length_zip, ← h4]; have := hc.2; omega, ?_⟩
              have hM : l2.M a := ok2.alM a (List.mem_of_getElem? ha)
              have st := Step.at_ hM (.ins (He.ga X.K C) dx (L2.putF fl v (ns.zip vs)))
              exact q _ σ (st2.trans st) (ok2.muSet ha fun l' e1 e2 e3 => ⟨dx, putV fl v ns vs, by rw [e3, upd_same, putF_zip h4], put_len (a := V) h4, by
                have q := RepL.put (f := fl) (ns := ns) (st.rep (st2.rep r)) (st.reps h5)
                show RepL X.K g.CR l'.al (g.L l') l'.H _ _
                have el : l' = ⟨l2.al, l2.M, upd l2.H a (.ins (He.ga X.K C) dx (L2.putF fl v (ns.zip vs)))⟩ := by
                  obtain ⟨x1, x2, x3⟩ := l'
                  cases e1; cases e2; cases e3; rfl
                rw [el]
                exact q⟩) fun _ _ => rfl
            · rw [if_neg hc] at q
              exact q.elim
      | _ => exact q.elim
end L3
namespace L3
open PySem PySem.Spec PyProof.Rows L2
theorem propNB_ok {c m : Str} {K : PySem.W.Frag} (h : propNB c m K = true) : PropOf K (He.ga K c) m (He.ma K (He.ga K c) m) (getAdN c m K) := by
  obtain ⟨h1, h⟩ := He.ba h
  obtain ⟨h2, h⟩ := He.ba h
  obtain ⟨h3, h4⟩ := He.ba h
  refine ⟨He.eqO_ok h1, He.eqO_ok h2, of_decide_eq_true h3, ?_⟩
  unfold getAdN
  split at h4
  · rename_i f r e
    exact ⟨r, by rw [e]⟩
  · cases h4
def HasPN (P : Program) (w : World) (K : PySem.W.Frag) (mg : Str → Option Value) (base : Heap) (CR : Addr) (c fl : Str) (k : Nat) (F : DF) : Prop := Cls K (He.ga K c) ∧ ∃ pA gA fd, PropOf K (He.ga K c) fl pA gA ∧ FJ P w K mg base CR k gA fd ["self"] F ∧ Binds K fd ["self"] []
theorem HasNew.kp {P : Program} {w : World} {K : PySem.W.Frag} {mg : Str → Option Value} {base : Heap} {CR : Addr} {c : Str} {k n : Nat} {ps ks : List Str} {gP : List PV → List PV → List PV} {F : DF} (h : HasNew P w K mg base CR c k ps n ks gP F) : PySem.W.keepIn K (.ref (He.ga K c)) = true :=
  let ⟨_, _, _, _, _, _, M, _⟩ := h
  M.kp
section
variable {X : Cx} {g : Gx} {a e o : Expr} {es : List Expr} {da dob : DE} {dr dk : DA} {pos p apos : Pos} {c m fl : Str} {k n : Nat} {ps ks cs : List Str} {F : DF} {gP : List PV → List PV → List PV}
theorem pt_one (h : HasPN X.prog X.w X.K X.mg X.base g.CR c fl k F) : PTab X g k fl [(c, F)] := fun c' F' e => by
  rw [List.lookup_cons] at e
  cases z : (c' == c) with
  | true =>
    rw [z] at e
    cases e
    rw [eq_of_beq z]
    exact h
  | false =>
    rw [z] at e
    cases e
end
end L3
namespace LD
noncomputable section
open PySem L3
/-- slots: self, slope, height -/
def d_Line___init__ : DS := (dSeq (dExpr (dFnS F_need_number (dCons (dVar 1) dNil))) (dSeq (dExpr (dFnS F_need_number (dCons (dVar 2) dNil))) (dAsg (dTup (dCons (dFnS F_ratio_of (dCons (dVar 1) dNil)) (dCons (dFnS F_ratio_of (dCons (dVar 2) dNil)) dNil))) (gT 2 (gCons (gFldN ["Line"] "own_slope" (dVar 0)) (gCons (gFldN ["Line"] "own_height" (dVar 0)) gNil))))))
def F_Line___init__ : DF := runBody 3 d_Line___init__
/-- slots: self -/
def d_Line_height : DS := (dRet (dUn (fFldN ["Line"] "own_height") (dVar 0)))
def F_Line_height : DF := runBody 1 d_Line_height
/-- slots: self -/
def d_Line_slope : DS := (dRet (dUn (fFldN ["Line"] "own_slope") (dVar 0)))
def F_Line_slope : DF := runBody 1 d_Line_slope
/-- slots: _law_straight -/
def d_w_seen : DS := (dRet (dTup (dCons (dFnS F_w_taken (dCons (dUn (fPropN [("Line", F_Line_slope)]) (dVar 0)) dNil)) (dCons (dFnS F_w_taken (dCons (dUn (fPropN [("Line", F_Line_height)]) (dVar 0)) dNil)) dNil))))
def F_w_seen : DF := runBody 1 d_w_seen
end
end LD
namespace L3
open PySem PySem.Spec PyProof.Rows L2
structure LamSD (sc scope : Scope) (x : Str) : Prop where
  kind : scope.kind = .function
  co : scope.isCoroutine = false
  gen : scope.isGenerator = false
  own : ∀ y ∈ scope.names, y.2 ≠ .cell ∧ (y.2 = .local → y.1 = x)
  loc : scope.names.lookup x = some .local
  free : ∀ y ∈ scope.names, y.2 = .free → sc.names.lookup y.1 = some .cell ∨ sc.names.lookup y.1 = some .free
theorem LamSD.has {X : Cx} {scope : Scope} {x : Str} (L : LamSD X.env.scope scope x) (ok : X.Ok) : ∀ y ∈ scope.names, y.2 = .free → ∃ c, X.env.cells.lookup y.1 = some c := fun y hy e => by
  rcases L.free y hy e with k | k
  · exact ok.has _ (.inl k)
  · exact ok.has _ (.inr k)
end L3
namespace L3
open PySem PySem.Spec PyProof.Rows L2
@[simp] def dBorF (is : List Nat) (d : DL) : DL := fun s => if ownIn is s.env = true then (match d (frozS is s) with
  | .ok v s1 => if flatL v = true ∧ flatMs s1.mu = true then .ok v ⟨s.env, s1.mu⟩ else .bad
  | _ => .bad) else .bad
end L3
namespace L3
open PySem PySem.Spec PyProof.Rows L2
end L3
namespace L3
open PySem PySem.Spec PyProof.Rows L2
end L3
namespace LD
end LD
namespace L3
open PySem PySem.Spec PyProof.Rows L2
end L3
namespace L3
open PySem PySem.Spec PyProof.Rows L2
end L3
namespace LD
end LD
namespace LD
open PySem L3
end LD
namespace LD
end LD
namespace L3
open PySem PySem.Spec PyProof.Rows L2
@[simp] def dRev (d : DE) : DE := fun s => (d s).bind fun v s1 => match v with
  | .lst xs => .ok (.lst xs.reverse) s1
  | _ => .bad
end L3
namespace LD
end LD
namespace L3
open PySem PySem.Spec PyProof.Rows L2 PySem.Calls
/-- the truth of a value, ratios by their own __bool__ -/
def truR (F : DF) : PV → S → R S Bool := fun v s => match v with
  | .rat a => (fMt 1 F [.rat a] s).bind fun w s2 => match w with
    | .bl b => .ok b s2
    | _ => .bad
  | v => match truP v with
    | some b => .ok b s
    | none => .bad
@[simp] def dTruR (F : DF) (d : DE) : DT := fun s => (d s).bind (truR F)
end L3
namespace L3
open PySem PySem.Spec PyProof.Rows L2
@[simp] def dFmt (d : DE) : DE := fun s => (d s).bind fun v s1 => match v with
  | .str y => if y.length ≤ 16777216 then .ok (.str y) s1 else .bad
  | .int i => if ib i ≤ 1900 then .ok (.str (Str.ofString (toString i))) s1 else .bad
  | _ => .bad
@[simp] def dJs : List DE → Str → DE
  | [], acc => fun s => .ok (.str acc) s
  | d :: ds, acc => fun s => (d s).bind fun v s1 => match v with
    | .str y => if (acc ++ y).length ≤ 16777216 then dJs ds (acc ++ y) s1 else .bad
    | _ => .bad
end L3
namespace L3
open PySem PySem.Spec PyProof.Rows L2
end L3
namespace L3
open PySem PySem.Spec PyProof.Rows L2
end L3
namespace L3
open PySem PySem.Spec PyProof.Rows L2
@[simp] def okX : TP → Bool
  | .tup => true | .lst => true | .dct => true | _ => false
end L3
namespace L3
open PySem PySem.Spec PyProof.Rows L2
end L3
namespace L3
open PySem PySem.Spec PyProof.Rows L2
end L3
namespace L3
open PySem PySem.Spec PyProof.Rows L2
end L3
namespace LD
end LD
namespace L3
open PySem PySem.Spec PyProof.Rows L2
end L3
namespace L3
open PySem PySem.Spec PyProof.Rows L2
@[simp] def catO (i : Nat) (q : PV) (s : S) : R S (List PV) := match s.env[i]?, q with
  | some (some (.own xs)), .lst ys => if xs.length + ys.length ≤ 16777216 then .ok (xs ++ ys) s else .bad
  | _, _ => .bad
@[simp] def dCatO (i : Nat) (db : DE) : DL := fun s => match s.env[i]? with
  | some (some (.own _)) => (db s).bind fun q s2 => catO i q s2
  | _ => .bad
end L3
namespace LD
end LD
namespace LD
end LD
namespace L3
open PySem PySem.Spec PyProof.Rows L2
@[simp] def dExt (i : Nat) (d : DE) : DE := fun s => match lstAt i s with
  | some _ => (d s).bind fun v s1 => (match lstAt i s1, v with
    | some (xs, k), .lst ys => if xs.length + ys.length ≤ 16777216 then .ok .non (k (xs ++ ys)) else .bad
    | _, _ => .bad)
  | none => .bad
section
variable {X : Cx} {g : Gx} {e : Expr} {de : DE} {pos : Pos}
theorem j_ext {i : Nat} {x : Str} {px apos : Pos} (he : JE X g e de) (hN : X.N[i]? = some x := by rfl) (hv : Vis X.env.scope x := by first | exact Or.inl rfl | exact Or.inr (Or.inl rfl) | exact Or.inr (Or.inr rfl))
    (hbase : attributeBase (.Name x px) "extend" X.env (eval (.Name x px) X.env) = eval (.Name x px) X.env := by rfl)
    (hfew : ((backTo pos (starEach (e :: []) X.env)).all (fun x => !x.1) && (backToKw pos (keywordEach [] X.env)).all (fun x => x.1.isSome)
      && decide ((e :: []).length + ([] : List Keyword).length + (if ([] : List Keyword).isEmpty then 0 else 1) < 30)) = true := by rfl)
    (hline : (apos.endLine == pos.line) = true := by rfl) (hs : starEach (e :: []) X.env = (false, eval e X.env) :: starEach [] X.env := by rfl) (hplain : (backTo pos (starEach [] X.env)).any (·.1) = false := by rfl)
    (hd : (x == ("__debug__" : Str)) = false := by decide) (hcd : (x == ("__classdict__" : Str)) = false := by decide) : JE X g (.Call (.Attribute (.Name x px) "extend" apos) [e] [] pos) (dExt i de) :=
  PE.cq (pe_bm PySem.F.plainAttrs_list PySem.F.slot_list_extend PySem.F.type_list_extend mt_extend (pe_var (i := i) hN hv hd hcd) (pa_cons he pa_nil hs) hbase hfew hline hs hplain) fun pins s σ H Q I q => by
    obtain ⟨l, s, rfl, ok, q⟩ := q
    simp only [dExt] at q
    cases e0 : lstAt i s with
    | none => rw [e0] at q; exact q.elim
    | some z =>
      rw [e0] at q
      obtain ⟨xs0, k0⟩ := z
      obtain ⟨a0, vs0, h1, h2, h3, h4, _⟩ := ok.lst e0
      refine ⟨.ref a0, h1, .inl ⟨rfl, vs0, SqL.of h3⟩, l, s, rfl, ok, Run.mono (Run.bind q) fun u H1 ⟨l1, s1, v, e1, ok1, r1, st1, h5⟩ => ?_⟩
      subst e1
      cases e6 : lstAt i s1 with
      | none => rw [e6] at h5; exact h5.elim
      | some z =>
        obtain ⟨xs, k⟩ := z
        rw [e6] at h5
        cases v with
        | lst ys =>
          simp only at h5
          obtain ⟨a1, vs, g1, g2, g3, g4, g5⟩ := ok1.lst e6
          rw [h1] at g1
          cases g1
          by_cases hz : xs.length + ys.length ≤ 16777216
          · rw [if_pos hz] at h5
            obtain ⟨b, ws, rfl, _, hb, rb⟩ := r1
            exact ⟨a0, b, vs, ws, rfl, rfl, g3, hb, by rw [line_eq, ← g4.length, ← rb.length]; exact hz, h5 ⟨l1.al, l1.M, upd l1.H a0 (.lst (vs ++ ws))⟩ _ (Step.at_ g2 _) (g5 _ _ (g4.append rb)) rfl⟩
          · rw [if_neg hz] at h5
            exact h5.elim
        | _ => exact h5.elim
end
end L3
namespace L3
open PySem PySem.Spec PyProof.Rows L2
def rangeC (lo c : Int) (n : Nat) : List PV := (List.range n).map fun (k : Nat) => .int (lo + (k : Int) * c)
def numC (i j c : Int) : Nat := if i < j then ((j - i - 1) / c + 1).toNat else 0
@[simp] def iRange3 (d : DA) : DI := fun s => (d s).bind fun vs s1 => match vs with
  | [.int i, .int j, .int c] => if 0 ≤ i ∧ i ≤ 2 ^ 40 ∧ -(2 ^ 40) ≤ j ∧ j ≤ 2 ^ 40 ∧ 1 ≤ c ∧ c ≤ 1000 then .ok (rangeC i c (numC i j c)) s1 else .bad
  | _ => .bad
theorem it_rangeC {K : PySem.W.Frag} {g : Gx} {l0 : Lc} {lo c : Int} {n : Nat} : ItOk K g l0 (Itc lo c n) (rangeC lo c n) := fun i g' l st ec hN th => by
  have hl : (rangeC lo c n).length = n := by simp [rangeC]
  refine ⟨fun x hx => ?_, fun hx => by rw [hl] at hx; exact hx⟩
  unfold rangeC at hx
  rw [List.getElem?_map] at hx
  cases e : (List.range n)[i]? with
  | none => rw [e] at hx; cases hx
  | some k =>
    rw [e] at hx
    obtain ⟨h1, ek⟩ := List.getElem?_eq_some_iff.mp e
    rw [List.getElem_range] at ek
    subst ek
    rw [List.length_range] at h1
    cases hx
    refine ⟨h1, fun u H' y => ?_⟩
    obtain ⟨e1, e2⟩ := y
    subst e1 e2
    exact ⟨fun _ _ h => h, fun _ _ _ _ => rfl⟩
theorem rgC {i j c : Int} (h : 0 ≤ i ∧ i ≤ 2 ^ 40 ∧ -(2 ^ 40) ≤ j ∧ j ≤ 2 ^ 40 ∧ 1 ≤ c ∧ c ≤ 1000) : RgC i j c (numC i j c) := by
  obtain ⟨h1, h2, h3, h4, h5, h6⟩ := h
  refine ⟨by omega, by omega, ?_, ?_⟩
  · unfold Builtin.Range.small
    have hn : Builtin.Range.rangeSize i j c = numC i j c := by
      unfold Builtin.Range.rangeSize numC
      rw [if_pos (by omega)]
      split
      · have : 0 ≤ (j - i - 1) / c := Int.ediv_nonneg (by omega) (by omega)
        omega
      · rfl
    have hb : (numC i j c : Int) ≤ 2 ^ 41 ∧ 0 ≤ (numC i j c : Int) := by
      refine ⟨?_, by omega⟩
      unfold numC
      split
      · have : (j - i - 1) / c ≤ j - i - 1 := Int.ediv_le_self _ (by omega)
        omega
      · decide
    rw [hn]
    generalize (numC i j c : Int) = n at *
    simp only [Builtin.Range.rangeFitsLong, Bool.and_eq_true, Bool.or_eq_true, decide_eq_true_eq, beq_iff_eq, if_pos (show c > 0 by omega)]
    omega
  · unfold Builtin.Range.rangeSize numC
    rw [if_pos (by omega)]
    split
    · have : 0 ≤ (j - i - 1) / c := Int.ediv_nonneg (by omega) (by omega)
      omega
    · rfl
section
variable {X : Cx} {g : Gx} {a b c : Expr} {dr : DA} {pos : Pos} {tg : Expr}
theorem ji_range3 {p : Pos} (ha : JA X g [a, b, c] dr) (hm : X.mg "range" = none) (hg : Gl X "range" := by rfl) (hs : starEach [a, b, c] X.env = (false, eval a X.env) :: starEach [b, c] X.env := by rfl) (hpl : (backTo pos (starEach [b, c] X.env)).any (·.1) = false := by rfl) : JI X g tg (.Call (.Name "range" p) [a, b, c] [] pos) (iRange3 dr) :=
  PI.cq (pi_range3 hg hm ha hs hpl) fun pins s σ H Q I q => by
    obtain ⟨l, s, rfl, ok, q⟩ := q
    refine ⟨l, s, rfl, ok, ?_⟩
    simp only [iRange3] at q
    cases e1 : dr s with
    | bad => rw [e1] at q; exact q
    | exn e t => rw [e1] at q; exact q
    | ok vs t =>
      rw [e1] at q
      intro l1 us st1 ok1 r1
      simp only [R.bind] at q
      split at q
      · rename_i e2
        split at e2
        · rename_i i j c
          obtain ⟨v, r, rfl, h1, w, r2, rfl, h2, u, r3, rfl, h3, h4⟩ := r1
          cases (show r3 = [] from h4)
          cases (show v = .int i from h1)
          cases (show w = .int j from h2)
          cases (show u = .int c from h3)
          split at e2
          · rename_i z
            cases e2
            exact ⟨i, j, c, numC i j c, rfl, rgC z, q l1 _ st1 ok1 it_rangeC⟩
          · cases e2
        · cases e2
      · rename_i e2
        split at e2
        · split at e2 <;> cases e2
        · cases e2
      · exact q.elim
end
end L3
namespace LD
noncomputable section
open PySem L3
/-- slots: _law_row -/
def d_w_half : DS := (dSeq (dSet 0 (dFnS F_w_sorted (dCons (dVar 0) dNil))) (dRet (dFnS F_w_middle (dCons (dBin fIx (dVar 0) (dBin gFdiv (dBin gSub (dFn fLen (dCons (dVar 0) dNil)) (dC (.int 1))) (dC (.int 2)))) (dCons (dBin fIx (dVar 0) (dBin gFdiv (dFn fLen (dCons (dVar 0) dNil)) (dC (.int 2)))) dNil)))))
def F_w_half : DF := runBody 1 d_w_half
def b_w_due_k30_1 : DS := (dIfS (dTru (dBin (gEq true) (dVar 4) (dBin fIx (dBin fIx (dVar 0) (dVar 2)) (dC (.int 0))))) (dSeq (dSet 6 (dFnS F_w_minus (dCons (dBin fIx (dBin fIx (dVar 0) (dVar 2)) (dC (.int 1))) (dCons (dVar 5) dNil)))) (dExpr (dApp 1 (dFnS F_w_through (dCons (dVar 6) (dCons (dFnS F_w_minus (dCons (dBin fIx (dBin fIx (dVar 0) (dVar 2)) (dC (.int 0))) (dCons (dVar 4) dNil))) dNil)))))) dSkip)
def b_w_due_k30_2 : DS := (dFor (iSeq (dSlice (dVar 0) dNone (dSome (dVar 2)))) (gT 2 (gCons (gN 4) (gCons (gN 5) gNil))) b_w_due_k30_1)
def e_w_due_k30_3 : DE := (dFnS F_w_minus (dCons (dVar 5) (dCons (dFnS F_w_times (dCons (dVar 3) (dCons (dVar 4) dNil))) dNil)))
/-- slots: _law_dots_here, _law_some, _law_at, _law_by, _law_near, _law_far, _law_rise -/
def d_w_due_k30 : DS := (dSeq (dOwn 1 (dLstF dNil)) (dSeq (dFor (iRange1 (dCons (dFn fLen (dCons (dVar 0) dNil)) dNil)) (gN 2) b_w_due_k30_2) (dSeq (dIfS (dBorT [1] (dTru (dBin (gEq false) (dVar 1) (dLst dNil)))) (dRet (dC .non)) dSkip) (dSeq (dSet 3 (dBor [1] (dFnS F_w_half (dCons (dVar 1) dNil)))) (dRet (dTup (dCons (dVar 3) (dCons (dFnS F_w_half (dCons (dFr (dComp (iSeq (dVar 0)) (gT 2 (gCons (gN 4) (gCons (gN 5) gNil))) dYes e_w_due_k30_3 [4, 5])) dNil)) dNil))))))))
def F_w_due_k30 : DF := runBody 7 d_w_due_k30
def t_joined_1 : DT := (dAndT (dTru (dBin gLt (dVar 4) (dFn fLen (dCons (dVar 1) dNil)))) (dTru (dFnS F_is_less (dCons (dBin fIx (dVar 1) (dVar 4)) (dCons (dVar 2) dNil)))))
def b_joined_2 : DS := (dSeq (dExpr (dApp 3 (dBin fIx (dVar 1) (dVar 4)))) (dSet 4 (dBin gAdd (dVar 4) (dC (.int 1)))))
def b_joined_3 : DS := (dSeq (dWhile (fuL 1) t_joined_1 b_joined_2) (dExpr (dApp 3 (dVar 2))))
/-- slots: near, far, value, found, at -/
def d_joined : DS := (dSeq (dAsgX [3, 4] (xOwn (dLstF dNil) (xVal (dC (.int 0)) xNil))) (dSeq (dFor (iSeq (dVar 0)) (gN 2) b_joined_3) (dFrz [3] (dRet (dBin gAdd (dVar 3) (dSlice (dVar 1) (dSome (dVar 4)) dNone))))))
def F_joined : DF := runBody 5 d_joined
def e_arranged_1 : DE := (dFnS F_joined (dCons (dBin fIx (dVar 1) (dVar 4)) (dCons (dBin fIx (dVar 1) (dBin gAdd (dVar 4) (dC (.int 1)))) dNil)))
def t_arranged_2 : DT := (dTru (dBin gGt (dFn fLen (dCons (dVar 1) dNil)) (dC (.int 1))))
def b_arranged_3 : DS := (dSeq (dSet 2 (dFr (dComp (iRange3 (dCons (dC (.int 0)) (dCons (dBin gSub (dFn fLen (dCons (dVar 1) dNil)) (dC (.int 1))) (dCons (dC (.int 2)) dNil)))) (gN 4) dYes e_arranged_1 [4]))) (dSet 1 (dBin gAdd (dVar 2) (dSlice (dVar 1) (dSome (dBin gMul (dC (.int 2)) (dFn fLen (dCons (dVar 2) dNil)))) dNone))))
/-- slots: values, lists, pairs, value, at -/
def d_arranged : DS := (dSeq (dSet 1 (dFr (dComp (iSeq (dVar 0)) (gN 3) dYes (dLst (dCons (dVar 3) dNil)) [3]))) (dSeq (dWhile (fuL 1) t_arranged_2 b_arranged_3) (dRet (dBin fIx (dVar 1) (dC (.int 0))))))
def F_arranged : DF := runBody 5 d_arranged
def e_middle_line_1 : DE := (dMethR (fMt 2 F_Ratio_over) (dBin (gRL F_Ratio___sub__ gSub) (dVar 8) (dVar 6)) (dCons (dBin (gRL F_Ratio___sub__ gSub) (dVar 7) (dVar 5)) dNil))
def b_middle_line_2 : DS := (dExpr (dExt 2 (dFr (dComp (iSeq (dSlice (dVar 1) (dSome (dBin gAdd (dVar 4) (dC (.int 1)))) dNone)) (gT 2 (gCons (gN 7) (gCons (gN 8) gNil))) (dTru (dBin (gNeR F_Ratio___eq__ (gEq true)) (dVar 7) (dVar 5))) e_middle_line_1 [7, 8]))))
def e_middle_line_3 : DE := (dBin (gRL F_Ratio___sub__ gSub) (dVar 6) (dBin (gRL F_Ratio___mul__ gMul) (dVar 3) (dVar 5)))
/-- slots: pairs, values, slopes, slope, index, x, y, far, later -/
def d_middle_line : DS := (dSeq (dSet 1 (dFnS F_need_pairs (dCons (dVar 0) dNil))) (dSeq (dIfS (dTru (dBin gGt (dFn fLen (dCons (dVar 1) dNil)) (dC (.int 40)))) (dRaise "TooMany" "most" (dC (.int 40))) dSkip) (dSeq (dExpr (dFnS F_need_items (dCons (dVar 1) dNil))) (dSeq (dOwn 2 (dLstF dNil)) (dSeq (dFor (iEnumQ (dCons (dVar 1) dNil)) (gT 2 (gCons (gN 4) (gCons (gT 2 (gCons (gN 5) (gCons (gN 6) gNil))) gNil))) b_middle_line_2) (dSeq (dIfS (dBorT [2] (dTru (dBin (gEq false) (dVar 2) (dLst dNil)))) (dRaise0 "NoSpread") dSkip) (dSeq (dSet 3 (dBor [2] (dFnS F_median_of (dCons (dFnS F_arranged (dCons (dVar 2) dNil)) dNil)))) (dRet (dNewK "Line" F_Line___init__ 2 0 (fun us zs => pick3 [(0, 0), (0, 1), (0, 2)] us [] zs) (dCons (dVar 3) (dCons (dFnS F_median_of (dCons (dFnS F_ordered (dCons (dFr (dComp (iSeq (dVar 1)) (gT 2 (gCons (gN 5) (gCons (gN 6) gNil))) dYes e_middle_line_3 [5, 6])) dNil)) dNil)) dNil)) dNil)))))))))
def F_middle_line : DF := runBody 9 d_middle_line
def h_w_told_k30_1 (t : Clo) (xs : List PV) (B : DB) : DS := (dSet 1 (dVar 3))
def b_w_told_k30_2 (t : Clo) (xs : List PV) (B : DB) : DS := (dSet 2 (dLst (dCons (dAct 0 t xs B) dNil)))
/-- slots: _law_call, _law_error, _law_found, e -/
def d_w_told_k30 (t : Clo) (xs : List PV) (B : DB) : DS := (dSeq (dAsg (dTup (dCons (dC .non) (dCons (dC .non) dNil))) (gT 2 (gCons (gN 1) (gCons (gN 2) gNil)))) (dSeq (dTryAs ["BadInput", "Absent", "Undefined", "BadNumber", "BadSample", "BadWeights", "BadPairs", "BadShare", "BadRule", "BadAmount", "BadEdges", "BadSummary", "Empty", "TooFew", "NotThere", "DividedByZero", "NoSpread", "Impossible", "Unbounded", "TooMany"] 3 (h_w_told_k30_1 t xs B) (b_w_told_k30_2 t xs B)) (dRet (dIf (dTru (dBin (fIsN false) (dVar 1) (dC .non))) (dVar 2) (dFnS F_w_word (dCons (dVar 1) dNil))))))
def F_w_told_k30 (t : Clo) (xs : List PV) (B : DB) : DF := runBody 4 (d_w_told_k30 t xs B)
def l_w_right_k30_1 : DE := (dFnS F_w_seen (dCons (dFnS F_middle_line (dCons (dVar 6) dNil)) dNil))
def l_w_right_k30_2 : DE := (dFnS F_w_seen (dCons (dFnK F_middle_line 0 1 (fun us zs => pick3 [(2, 0)] us [] zs) dNil (dCons (dVar 5) dNil)) dNil))
/-- slots: _law_source_here, _law_dots_here, _law_due_here, _law_before, _law_told_here, _law_mixed_here, _law_given_here, _law_pair -/
def d_w_right_k30 : DS := (dSeq (dSet 1 (dFnS F_w_dots (dCons (dVar 0) (dCons (dC (.int 1)) (dCons (dC (.int 7)) dNil))))) (dSeq (dAsg (dTup (dCons (dFnS F_w_due_k30 (dCons (dVar 1) dNil)) (dCons (dFnS F_w_paired (dCons (dVar 1) dNil)) dNil))) (gT 2 (gCons (gN 2) (gCons (gN 6) gNil)))) (dSeq (dSet 2 (dIf (dTru (dBin (fIsN false) (dVar 2) (dC .non))) (dTup (dCons (dC (.str ("spread" : Str))) (dCons (dC .non) dNil))) (dLst (dCons (dVar 2) dNil)))) (dSeq (dSet 3 (dFr (dComp (iSeq (dVar 6)) (gN 7) dYes (dFnS F_w_kept (dCons (dVar 7) dNil)) [7]))) (dSeq (dOwn 4 (dLstF (dCons (dLam F_w_told_k30 l_w_right_k30_1) dNil))) (dSeq (dSet 5 (dFn fTuple (dCons (dFnS F_w_mixed (dCons (dVar 0) (dCons (dVar 6) dNil))) dNil))) (dSeq (dExpr (dApp 4 (dLam F_w_told_k30 l_w_right_k30_2))) (dFrz [4] (dRet (dAnd (dBin (gEq false) (dVar 4) (dLst (dCons (dVar 2) (dCons (dVar 2) dNil)))) (dBin (gEq false) (dFr (dComp (iSeq (dVar 6)) (gN 7) dYes (dFnS F_w_kept (dCons (dVar 7) dNil)) [7])) (dVar 3))))))))))))
def F_w_right_k30 : DF := runBody 8 d_w_right_k30
def e_w_moved_right_k30_1 : DE := (dTup (dCons (dTup (dCons (dVar 6) (dCons (dC (.int 1)) dNil))) (dCons (dFnS F_w_plus (dCons (dVar 5) (dCons (dFnS F_w_times (dCons (dVar 4) (dCons (dTup (dCons (dVar 6) (dCons (dC (.int 1)) dNil))) dNil))) dNil))) dNil)))
/-- slots: _law_source_here, _law_at, _law_dots_here, _law_far, _law_by, _law_up, _law_x -/
def d_w_moved_right_k30 : DS := (dSeq (dAsg (dTup (dCons (dFnS F_w_drawn (dCons (dVar 0) dNil)) (dCons (dFnS F_w_drawn (dCons (dVar 0) dNil)) dNil))) (gT 2 (gCons (gN 4) (gCons (gN 5) gNil)))) (dSeq (dSet 1 (dFnS F_w_next (dCons (dVar 0) (dCons (dC (.int 5)) dNil)))) (dSeq (dSet 2 (dFr (dComp (iRange1 (dCons (dC (.int 5)) dNil)) (gN 6) dYes e_w_moved_right_k30_1 [6]))) (dSeq (dSet 3 (dFnS F_w_low (dCons (dBin gSub (dFnS F_w_next (dCons (dVar 0) (dCons (dC (.int 2000)) dNil))) (dC (.int 1000))) (dCons (dBin gAdd (dC (.int 1)) (dFnS F_w_next (dCons (dVar 0) (dCons (dC (.int 3)) dNil)))) dNil)))) (dSeq (dSet 2 (dBin gAdd (dBin gAdd (dSlice (dVar 2) dNone (dSome (dVar 1))) (dLst (dCons (dTup (dCons (dBin fIx (dBin fIx (dVar 2) (dVar 1)) (dC (.int 0))) (dCons (dVar 3) dNil))) dNil))) (dSlice (dVar 2) (dSome (dBin gAdd (dVar 1) (dC (.int 1)))) dNone))) (dRet (dBin (gEq false) (dFnS F_w_seen (dCons (dFnS F_middle_line (dCons (dFnS F_w_paired (dCons (dVar 2) dNil)) dNil)) dNil)) (dTup (dCons (dVar 4) (dCons (dVar 5) dNil))))))))))
def F_w_moved_right_k30 : DF := runBody 7 d_w_moved_right_k30
def b_law_k30_1 : DS := (dIfS (dOrT (dNotT (dTru (dFnS F_w_right_k30 (dCons (dVar 4) dNil)))) (dNotT (dTru (dFnS F_w_moved_right_k30 (dCons (dVar 4) dNil))))) (dRet (dC (.bl false))) dSkip)
def b_law_k30_2 : DS := (dSeq (dSet 4 (dFnS F_w_source (dCons (dVar 0) (dCons (dVar 1) dNil)))) (dFor (iRange1 (dCons (dC (.int 2)) dNil)) (gN 5) b_law_k30_1))
def e_law_k30_3 : DE := (dTup (dCons (dVar 6) (dCons (dBin gMul (dVar 6) (dVar 6)) dNil)))
def l_law_k30_4 : DE := (dBin fIx (dFnS F_w_seen (dCons (dFnS F_middle_line (dCons (dVar 2) dNil)) dNil)) (dC (.int 0)))
def l_law_k30_5 : DE := (dFnS F_middle_line (dCons (dBin gAdd (dVar 2) (dLst (dCons (dTup (dCons (dC (.int 7)) (dCons (dC (.int 7)) dNil))) dNil))) dNil))
def l_law_k30_6 : DE := (dFnS F_middle_line (dCons (dBin gMul (dLst (dCons (dTup (dCons (dC (.int 1)) (dCons (dC (.int 1)) dNil))) dNil)) (dC (.int 41))) dNil))
def l_law_k30_7 : DE := (dFnS F_middle_line (dCons (dBin gMul (dLst (dCons (dTup (dCons (dC (.int 1)) (dCons (dC (.int 1)) dNil))) dNil)) (dC (.int 40))) dNil))
/-- slots: _law_script, _law_k, _law_some, _law_told_here, _law_source_here, _law_turn, _law_x -/
def d_law_k30 : DS := (dSeq (dFor (iRange1 (dCons (dFn fMin2 (dCons (dC (.int 4)) (dCons (dBin gAdd (dC (.int 1)) (dFn fLen (dCons (dVar 0) dNil))) dNil))) dNil)) (gN 1) b_law_k30_2) (dSeq (dSet 2 (dFr (dComp (iRange1 (dCons (dC (.int 40)) dNil)) (gN 6) dYes e_law_k30_3 [6]))) (dSeq (dOwn 3 (dLstF (dCons (dLam F_w_told_k30 l_law_k30_4) dNil))) (dSeq (dExpr (dApp 3 (dLam F_w_told_k30 l_law_k30_5))) (dSeq (dExpr (dApp 3 (dLam F_w_told_k30 l_law_k30_6))) (dSeq (dExpr (dApp 3 (dLam F_w_told_k30 l_law_k30_7))) (dFrz [3] (dRet (dBin (gEq false) (dVar 3) (dLst (dCons (dLst (dCons (dTup (dCons (dC (.int 39)) (dCons (dC (.int 1)) dNil))) dNil)) (dCons (dTup (dCons (dC (.str ("many" : Str))) (dCons (dC (.int 40)) dNil))) (dCons (dTup (dCons (dC (.str ("many" : Str))) (dCons (dC (.int 40)) dNil))) (dCons (dTup (dCons (dC (.str ("spread" : Str))) (dCons (dC .non) dNil))) dNil))))))))))))))
def F_law_k30 : DF := runBody 7 d_law_k30
end
end LD
namespace PC
open PySem L3 LD
theorem ib_le {i : Int} {b : Nat} (h : i.natAbs ≤ 2 ^ b) : ib i ≤ b + 1 := by
  unfold ib
  have : i.natAbs.log2 ≤ b := by
    by_cases z : i.natAbs = 0
    · rw [z]; simp
    · have := (Nat.log2_lt z (k := b + 1)).mpr (by rw [Nat.pow_succ]; have := Nat.one_le_two_pow (n := b); omega)
      omega
  omega
theorem ib_mono {i j : Int} (h : i.natAbs ≤ j.natAbs) : ib i ≤ ib j := by
  unfold ib
  by_cases z : i.natAbs = 0
  · rw [z]; simp
  · have h2 : j.natAbs ≠ 0 := by omega
    have : i.natAbs.log2 < j.natAbs.log2 + 1 := (Nat.log2_lt z).mpr (Nat.lt_of_le_of_lt h ((Nat.log2_lt h2).mp (Nat.lt_succ_self _)))
    omega
theorem fmod_nat (a b : Nat) (h : 0 < b) : (a : Int).fmod b = ((a % b : Nat) : Int) := by
  rw [Int.fmod_eq_emod_of_nonneg _ (by omega)]; rfl
theorem cd_loop (mu : List MO) : ∀ (n a b : Nat), b < n → whileL (dTru (dBin gGt (dVar 1) (dC (.int 0)))) (dPar [0, 1] (dCons (dVar 1) (dCons (dBin gMod (dVar 0) (dVar 1)) dNil))) n ⟨[some (.val (.int a)), some (.val (.int b))], mu⟩ =
    .ok .nx ⟨[some (.val (.int (Nat.gcd a b))), some (.val (.int 0))], mu⟩
  | 0, a, b, h => by omega
  | n + 1, a, b, h => by
    unfold whileL
    by_cases z : b = 0
    · subst z; simp
    · have hb : (0 : Int) < b := by omega
      have hb' : ¬ (b : Int) = 0 := by omega
      simp only [dTru, dBin, dVar, dC, R.bind, gGt, truP, hb, decide_true, dPar, dCons, dNil, gMod, hb', ne_eq, not_false_eq_true, if_true, setP, setE, List.set, List.getElem?_cons_zero, List.getElem?_cons_succ]
      rw [fmod_nat a b (by omega), cd_loop mu n b (a % b) (by have := Nat.mod_lt a (show b > 0 by omega); omega)]
      rw [Nat.gcd_comm b (a % b), ← Nat.gcd_rec, Nat.gcd_comm b a]
theorem e_cd (a b : Int) (mu : List MO) : F_common_divisor [.int a, .int b] mu = .ok (.int (Int.gcd a b)) mu := by
  have h := cd_loop mu (b.natAbs + 1) a.natAbs b.natAbs (Nat.lt_succ_self _)
  simp only [F_common_divisor, runBody, d_common_divisor, dSeq, dPar, dCons, dFn, dVar, dNil, fAbsI, R.bind, setP, setE, List.set, dWhile, fuI, List.getElem?_cons_zero, List.getElem?_cons_succ, List.map, List.length_cons, List.length_nil, List.replicate, List.append_nil, Nat.sub_self, Int.natAbs_natCast, h, dRet]
  rfl
@[simp] theorem e_is_integer_i (i : Int) (mu : List MO) : F_is_integer [.int i] mu = .ok (.bl true) mu := rfl
@[simp] theorem e_is_integer_r (q : Rat) (mu : List MO) : F_is_integer [.rat q] mu = .ok (.bl false) mu := rfl
@[simp] theorem e_is_integer_b (q : Bool) (mu : List MO) : F_is_integer [.bl q] mu = .ok (.bl false) mu := rfl
@[simp] theorem e_is_number_i (i : Int) (mu : List MO) : F_is_number [.int i] mu = .ok (.bl true) mu := rfl
@[simp] theorem e_is_number_r (q : Rat) (mu : List MO) : F_is_number [.rat q] mu = .ok (.bl true) mu := rfl
@[simp] theorem e_need_number_i (i : Int) (mu : List MO) : F_need_number [.int i] mu = .ok .non mu := rfl
@[simp] theorem e_need_number_r (q : Rat) (mu : List MO) : F_need_number [.rat q] mu = .ok .non mu := rfl
theorem ok1 : okR t 1 = true := by unfold okR; decide
theorem divInt_one (i : Int) : Rat.divInt i 1 = (i : Rat) := by
  apply Rat.ext
  · rw [Rat.num_divInt]; simp
  · rw [Rat.den_divInt]; simp
@[simp] theorem e_ratio_of_i (i : Int) (mu : List MO) : F_ratio_of [.int i] mu = .ok (.rat (i : Rat)) mu := by
  rw [← divInt_one]; rfl
@[simp] theorem e_ratio_of_r (q : Rat) (mu : List MO) : F_ratio_of [.rat q] mu = .ok (.rat q) mu := rfl
@[simp] theorem e_of_i (C : Addr) (i : Int) (mu : List MO) : F_Ratio_of [.adr C, .int i] mu = .ok (.rat (i : Rat)) mu := by
  rw [← divInt_one]; rfl
@[simp] theorem e_of_r (C : Addr) (q : Rat) (mu : List MO) : F_Ratio_of [.adr C, .rat q] mu = .ok (.rat q) mu := rfl
theorem gcd_pos {t b : Int} (h : b ≠ 0) : 0 < Int.gcd t b := Int.gcd_pos_of_ne_zero_right _ h
theorem num_div (t b : Int) (h : b ≠ 0) : (if 0 < b then t / (Int.gcd t b : Int) else 0 - t / (Int.gcd t b : Int)) = (Rat.divInt t b).num := by
  rw [Rat.num_divInt, Int.gcd_comm b t]
  have hd : (Int.gcd t b : Int) ∣ t := Int.gcd_dvd_left ..
  by_cases z : 0 < b
  · rw [if_pos z, Int.sign_eq_one_of_pos z, Int.one_mul]
  · have z' : b < 0 := by omega
    rw [if_neg z, Int.sign_eq_neg_one_of_neg z', Int.neg_one_mul, Int.neg_ediv_of_dvd hd, Int.zero_sub]
theorem den_div (t b : Int) (h : b ≠ 0) : ((b.natAbs : Int) / (Int.gcd t b : Int)) = ((Rat.divInt t b).den : Int) := by
  rw [Rat.den_divInt, if_neg h, Int.gcd_comm b t]; rfl
theorem b_init (C : Addr) : Below 3 (FInit C okR) (runBody 5 (d_Ratio___init__ C)) := by
  intro ps mu hl
  unfold FInit
  split
  · rename_i n t b
    split
    · rename_i C' ns xs e
      split
      · rename_i h
        obtain ⟨rfl, rfl, hb, ho⟩ := h
        refine .inr ?_
        have hn : n < mu.length := (List.getElem?_eq_some_iff.mp e).1
        have e' : mu[n] = .ins C' [] xs := (List.getElem?_eq_some_iff.mp e).2
        have hne : ¬ (Str.ofString "own_top" = Str.ofString "own_bottom") := by decide
        have hg := gcd_pos (t := t) hb
        have hg' : (0 : Int) < (Int.gcd t b : Int) := by omega
        have hgb : ib (Int.gcd t b : Int) ≤ 9000 := by
          have h1 : Int.gcd t b ≤ b.natAbs := Nat.le_of_dvd (by omega) (Int.gcd_dvd_natAbs_right ..)
          have h2 : ib (Int.gcd t b : Int) ≤ ib b := ib_mono (by rw [Int.natAbs_natCast]; exact h1)
          have h3 : ib b ≤ 9000 := of_decide_eq_true ho
          omega
        have hb' : (b == 0) = false := by simpa using hb
        have q1 := num_div t b hb
        have q2 := den_div t b hb
        by_cases z : 0 < b
        · rw [if_pos z] at q1
          simp [runBody, d_Ratio___init__, forL, e_cd, e', hne, hb, hb', hn, hg', hgb, z, putN, putV, eqP, okD, q1, q2]
        · rw [if_neg z] at q1
          simp [runBody, d_Ratio___init__, forL, e_cd, e', hne, hb, hb', hn, hg', hgb, z, putN, putV, eqP, okD, q1, q2]
      · exact .inl rfl
    · exact .inl rfl
  · exact .inl rfl
end PC
namespace PC
open PySem L3 LD
theorem b_top : Below 1 F_top (runBody 1 d_Ratio_top) := fun ps mu hl => by
  match ps, hl with
  | [p], _ => cases p <;> first | exact .inr rfl | exact .inl rfl
theorem b_bottom : Below 1 F_bottom (runBody 1 d_Ratio_bottom) := fun ps mu hl => by
  match ps, hl with
  | [p], _ => cases p <;> first | exact .inr rfl | exact .inl rfl
end PC
namespace PC
open PySem L3 LD
variable {Fq : List MO → Prop}
def fr (q : Rat) : PV := .tup [.int q.num, .int q.den]
theorem low_loop (t b : Int) (mu : List MO) : ∀ (n x y : Nat), y < n → whileL (dTru (dBin (gEq true) (dVar 3) (dC (.int 0)))) (dPar [2, 3] (dCons (dVar 3) (dCons (dBin gMod (dVar 2) (dVar 3)) dNil))) n ⟨[some (.val (.int t)), some (.val (.int b)), some (.val (.int x)), some (.val (.int y))], mu⟩ =
    .ok .nx ⟨[some (.val (.int t)), some (.val (.int b)), some (.val (.int (Nat.gcd x y))), some (.val (.int 0))], mu⟩
  | 0, x, y, h => by omega
  | n + 1, x, y, h => by
    unfold whileL
    by_cases z : y = 0
    · subst z; simp [eqP, okD]
    · have hb' : ¬ (y : Int) = 0 := by omega
      have hb : ((y : Int) == 0) = false := by simpa using z
      simp only [dTru, dBin, dVar, dC, R.bind, gEq, okD, eqP, hb, truP, Bool.xor_false, and_self, if_true, dPar, dCons, dNil, gMod, hb', ne_eq, not_false_eq_true, setP, setE, List.set, List.getElem?_cons_zero, List.getElem?_cons_succ]
      rw [fmod_nat x y (by omega), low_loop t b mu n y (x % y) (by have := Nat.mod_lt x (show y > 0 by omega); omega)]
      rw [Nat.gcd_comm y (x % y), ← Nat.gcd_rec, Nat.gcd_comm y x]
theorem e_low (t b : Int) (mu : List MO) (hb : b ≠ 0) (h9 : ib b ≤ 9000) : F_w_low [.int t, .int b] mu = .ok (fr (Rat.divInt t b)) mu := by
  have h := low_loop t b mu (b.natAbs + 1) t.natAbs b.natAbs (Nat.lt_succ_self _)
  have hg := gcd_pos (t := t) hb
  have hg' : (0 : Int) < (Int.gcd t b : Int) := by omega
  have hgb : ib (Int.gcd t b : Int) ≤ 9000 := by
    have h1 : Int.gcd t b ≤ b.natAbs := Nat.le_of_dvd (by omega) (Int.gcd_dvd_natAbs_right ..)
    have h2 : ib (Int.gcd t b : Int) ≤ ib b := ib_mono (by rw [Int.natAbs_natCast]; exact h1)
    omega
  have q1 := num_div t b hb
  have q2 := den_div t b hb
  have eg : Nat.gcd t.natAbs b.natAbs = Int.gcd t b := rfl
  rw [eg] at h
  have hd : (Int.gcd t b : Int) ∣ b := Int.gcd_dvd_right ..
  generalize (Int.gcd t b) = G at *
  by_cases z : 0 < b
  · rw [if_pos z] at q1
    have q3 : b / (G : Int) = ((Rat.divInt t b).den : Int) := by rw [← q2, Int.natAbs_of_nonneg (by omega)]
    simp [F_w_low, runBody, d_w_low, h, z, hg, hg', hgb, q1, q3, fr]
  · rw [if_neg z] at q1
    have q3 : 0 - b / (G : Int) = ((Rat.divInt t b).den : Int) := by
      rw [← q2, Int.zero_sub, ← Int.neg_ediv_of_dvd hd]
      congr 1
      omega
    rw [Int.zero_sub] at q1 q3
    simp [F_w_low, runBody, d_w_low, h, z, hg, hg', hgb, q1, q3, fr]
@[simp] theorem at0 {a : Type} (x : a) (xs : List a) : L2.atI (x :: xs) 0 = some x := by simp [L2.atI, L2.ixN]
theorem ix_of {n i : Nat} (h : i < n) : L2.ixN n (i : Int) = some i := by
  unfold L2.ixN
  rw [if_pos (by omega), if_pos (by omega)]
  simp
theorem at_of {a : Type} {xs : List a} {i : Nat} (h : i < xs.length) : L2.atI xs (i : Int) = some xs[i] := by
  unfold L2.atI
  rw [ix_of h]
  simp [h]
@[simp] theorem at1 {a : Type} (x y : a) (xs : List a) : L2.atI (x :: y :: xs) 1 = some y := at_of (xs := x :: y :: xs) (i := 1) (by simp)
@[simp] theorem at2 {a : Type} (x y z : a) (xs : List a) : L2.atI (x :: y :: z :: xs) 2 = some z := at_of (xs := x :: y :: z :: xs) (i := 2) (by simp)
def primes : List PV := [.int 2147483647, .int 2147483629, .int 2147483587, .int 2147483579, .int 2147483563, .int 2147483549, .int 2147483543, .int 2147483497, .int 2147483489, .int 2147483477, .int 2147483423]
theorem prime_ok (j : Int) : ∃ p : Int, 1 < p ∧ p < 2147483648 ∧ L2.atI primes (j.fmod 11) = some (.int p) := by
  have h1 : 0 ≤ j.fmod 11 := by rw [Int.fmod_eq_emod_of_nonneg _ (by omega)]; omega
  have h2 : j.fmod 11 < 11 := by rw [Int.fmod_eq_emod_of_nonneg _ (by omega)]; omega
  generalize j.fmod 11 = i at *
  have : i = 0 ∨ i = 1 ∨ i = 2 ∨ i = 3 ∨ i = 4 ∨ i = 5 ∨ i = 6 ∨ i = 7 ∨ i = 8 ∨ i = 9 ∨ i = 10 := by omega
  rcases this with h | h | h | h | h | h | h | h | h | h | h <;> subst h <;> exact ⟨_, by decide, by decide, rfl⟩
theorem mod_bounds (i : Int) {m : Int} (h : 0 < m) : 0 ≤ i.fmod m ∧ i.fmod m < m := by
  rw [Int.fmod_eq_emod_of_nonneg _ (by omega)]
  exact ⟨Int.emod_nonneg _ (by omega), Int.emod_lt_of_pos _ h⟩
/-- a source at n; Fq: what else is known of the store, whatever stands at n -/
structure SrcR (Fq : List MO → Prop) (mu : List MO) (n k : Nat) : Prop where
  at_ : ∃ c k0 d : Int, mu[n]? = some (.lst [.int c, .int k0, .int d]) ∧ 0 ≤ k0 ∧ k0 ≤ k
  flat : flatMs mu = true
  keep : Fq mu
  stab : ∀ m v, Fq m → Fq (m.set n v)
abbrev Src : List MO → Nat → Nat → Prop := SrcR fun _ => True
theorem SrcR.also {Fq Fr : List MO → Prop} {mu : List MO} {n k : Nat} (h : SrcR Fq mu n k) (h1 : Fr mu) (h2 : ∀ m v, Fr m → Fr (m.set n v)) : SrcR Fr mu n k := ⟨h.at_, h.flat, h1, h2⟩
theorem SrcR.src {Fq : List MO → Prop} {mu : List MO} {n k : Nat} (h : SrcR Fq mu n k) : Src mu n k := h.also trivial fun _ _ _ => trivial
theorem SrcR.le {Fq : List MO → Prop} {mu : List MO} {n k k' : Nat} (h : SrcR Fq mu n k) (hk : k ≤ k') : SrcR Fq mu n k' := let ⟨⟨c, k0, d, h1, h2, h3⟩, hf, hq, hs⟩ := h; ⟨⟨c, k0, d, h1, h2, by omega⟩, hf, hq, hs⟩
theorem flat_set {mu : List MO} {n : Nat} {m : MO} (h : flatMs mu = true) (hm : flatM m = true) : flatMs (mu.set n m) = true := by
  unfold flatMs at h ⊢
  rw [List.all_eq_true] at h ⊢
  intro x hx
  rcases List.mem_or_eq_of_mem_set hx with z | z
  · exact h x z
  · rw [z]; exact hm
theorem flat_ints (a b c : Int) : flatM (.lst [.int a, .int b, .int c]) = true := by simp [flatL, flatP]
theorem next_ok {mu : List MO} {n k : Nat} {m : Int} (h : SrcR Fq mu n k) (hk : k + 1 ≤ 2 ^ 49) (hm : 0 < m) (hb : ib m ≤ 9000) : ∃ r mu', F_w_next [.ptr n, .int m] mu = .ok (.int r) mu' ∧ 0 ≤ r ∧ r < m ∧ SrcR Fq mu' n (k + 1) := by
  obtain ⟨⟨c, k0, d, h1, h2, h3⟩, hf, hq, hs⟩ := h
  have hn : n < mu.length := (List.getElem?_eq_some_iff.mp h1).1
  have e1 : mu[n] = .lst [.int c, .int k0, .int d] := (List.getElem?_eq_some_iff.mp h1).2
  have hm0 : ¬ m = 0 := by omega
  by_cases z : 0 < d
  · refine ⟨d.fmod m, mu.set n (.lst [.int c, .int k0, .int (d / m)]), ?_, ?_, ?_, ⟨⟨c, k0, d / m, by simp [hn], h2, by omega⟩, flat_set hf (flat_ints ..), hs _ _ hq, hs⟩⟩
    · simp [F_w_next, runBody, d_w_next, e1, hn, z, hm0, hm, hb, L2.ixN]
    · rw [Int.fmod_eq_emod_of_nonneg _ (by omega)]; exact Int.emod_nonneg _ hm0
    · rw [Int.fmod_eq_emod_of_nonneg _ (by omega)]; exact Int.emod_lt_of_pos _ hm
  · obtain ⟨p, p1, p2, p3⟩ := prime_ok (k0 + 1)
    have p0 : ¬ p = 0 := by omega
    obtain ⟨c1, c2⟩ := mod_bounds c (show 0 < p by omega)
    have hib : ib 7919 + ib (k0 + 1) ≤ 1000000 := by
      have h1 : ib (k0 + 1) ≤ 49 + 1 := ib_le (b := 49) (by omega)
      have h2 : ib 7919 ≤ 13 + 1 := ib_le (b := 13) (by decide)
      omega
    have hpow : (c.fmod p + 7919 * (k0 + 1) + 1).natAbs < 2 ^ 64 := by omega
    have hpow' : (c.fmod p + 7919 * (k0 + 1) + 1).natAbs < 18446744073709551616 := by omega
    have h13 : ib 13 ≤ 9000 := by decide
    have q := mod_bounds (((c.fmod p + 7919 * (k0 + 1) + 1) ^ 5).fmod p / 13) hm
    refine ⟨_, mu.set n (.lst [.int c, .int (k0 + 1), .int d]), ?_, q.1, q.2, ⟨⟨c, k0 + 1, d, by simp [hn], by omega, by omega⟩, flat_set hf (flat_ints ..), hs _ _ hq, hs⟩⟩
    unfold primes at p3
    simp [F_w_next, runBody, d_w_next, e1, hn, z, hm0, hm, hb, L2.ixN, p3, p0, hib, hpow', h13]
end PC
namespace PC
open PySem L3 LD
variable {Fq : List MO → Prop}
theorem compL_map {t : DG} {tt : DT} {te : DE} {vs : List Nat} {s0 : S} {f : PV → PV} : ∀ (xs acc : List PV), (∀ x ∈ xs, ∃ s1 s3, t x s0 = .ok () s1 ∧ tt s1 = .ok true s1 ∧ te s1 = .ok (f x) s3 ∧ wipeS vs s3 = s0) → acc.length + xs.length ≤ 16777216 →
    compL t tt te vs xs acc s0 = .ok (acc ++ xs.map f) s0
  | [], acc, _, _ => by simp [compL]
  | x :: xs, acc, h, hl => by
    obtain ⟨s1, s3, h1, h2, h3, h4⟩ := h x List.mem_cons_self
    simp only [List.length_cons] at hl
    simp only [compL, h1, tgt, h2, okB, h3]
    rw [if_pos (by omega), h4, compL_map xs (acc ++ [f x]) (fun y hy => h y (List.mem_cons_of_mem _ hy)) (by simp; omega)]
    simp
theorem okDL_ints (n : Nat) : ∀ ns : List Int, okDL n (ns.map PV.int) = true
  | [] => by simp [okDL]
  | i :: ns => by simp [okDL, okD, okDL_ints n ns]
theorem eqPL_nil (xs : List PV) : eqPL xs [] = xs.isEmpty := by cases xs <;> simp [eqPL]
theorem ib3 : ib 3 = 2 := by decide
theorem ib1018 : ib 1000000000000000000 ≤ 9000 := by decide
theorem source_ok (ns : List Int) (k : Nat) (mu : List MO) (hk : k ≤ 2 ^ 40) (hf : flatMs mu = true) : ∃ mu', F_w_source [.frz (ns.map .int), .int k] mu = .ok (.ptr mu.length) mu' ∧ Src mu' mu.length (3 * k) := by
  have h3 : ib 3 + ib (k : Int) ≤ 1000000 := by
    have : ib (k : Int) ≤ 40 + 1 := ib_le (b := 40) (by simpa using hk)
    rw [ib3]; omega
  have core : ∀ cell : Int, (if (1000000000000000000 : Int) ≤ cell then True else True) → ∀ d : Int, Src (mu ++ [.lst [.int cell, .int (3 * (k : Int)), .int d]]) mu.length (3 * k) := fun cell _ d =>
    ⟨⟨cell, 3 * k, d, by simp, by omega, by omega⟩, by unfold flatMs at hf ⊢; rw [List.all_append, hf]; simp [flatL, flatP], trivial, fun _ _ _ => trivial⟩
  have okns : okD 8 (.frz (ns.map PV.int)) = true := by unfold okD; exact okDL_ints 7 ns
  have oknil : okD 8 (.lst []) = true := by simp [okD, okDL]
  cases ns with
  | nil =>
    refine ⟨_, ?_, core 1 (by split <;> trivial) 0⟩
    simp [F_w_source, runBody, d_w_source, okns, oknil, okD, okDL, eqP, eqPL, h3]
  | cons n ns =>
    have hl : (0 : Int) < ((n :: ns).length : Int) := by simp
    obtain ⟨b1, b2⟩ := mod_bounds (k : Int) hl
    have hlt : ((k : Int).fmod ((n :: ns).length : Int)).toNat < ((n :: ns).map PV.int).length := by rw [List.length_map]; omega
    have hat := at_of hlt
    rw [Int.toNat_of_nonneg b1, List.getElem_map] at hat
    generalize hc : (n :: ns)[((k : Int).fmod ((n :: ns).length : Int)).toNat]'(by rw [List.length_map] at hlt; exact hlt) = cell at hat
    have he : eqP (.frz ((n :: ns).map PV.int)) (.lst []) = false := by simp [eqP, eqPL]
    have hl0 : ¬ ((n :: ns).length : Int) = 0 := by omega
    clear hc hlt
    generalize hxs : (n :: ns).map PV.int = xs at *
    have hlen : xs.length = (n :: ns).length := by rw [← hxs, List.length_map]
    generalize (n :: ns).length = L at *
    have hl1 : ¬ L = 0 := by omega
    by_cases z : (1000000000000000000 : Int) ≤ cell
    · refine ⟨_, ?_, core cell (by split <;> trivial) (cell / 1000000000000000000)⟩
      simp [F_w_source, runBody, d_w_source, okns, oknil, he, h3, hat, hlen, hl0, hl1, z, ib1018]
    · refine ⟨_, ?_, core cell (by split <;> trivial) 0⟩
      simp [F_w_source, runBody, d_w_source, okns, oknil, he, h3, hat, hlen, hl0, hl1, z]
theorem pick_ok {mu : List MO} {n k : Nat} {xs : List PV} (h : SrcR Fq mu n k) (hk : k + 1 ≤ 2 ^ 49) (hne : xs ≠ []) (hl : xs.length ≤ 16777216) : ∃ x mu', F_w_pick [.ptr n, .lst xs] mu = .ok x mu' ∧ x ∈ xs ∧ SrcR Fq mu' n (k + 1) := by
  have h0 : 0 < xs.length := List.length_pos_iff.mpr hne
  obtain ⟨r, mu', h1, h2, h3, h4⟩ := next_ok (m := xs.length) h hk (by omega) (by
    have := ib_le (i := (xs.length : Int)) (b := 24) (by simpa using hl)
    omega)
  have hlt : r.toNat < xs.length := by omega
  have hat := at_of hlt
  rw [Int.toNat_of_nonneg h2] at hat
  refine ⟨xs[r.toNat], mu', ?_, List.getElem_mem _, h4⟩
  simp [F_w_pick, runBody, d_w_pick, h1, hat]
end PC
namespace PC
open PySem L3 LD
def Zb (q : Rat) (b : Nat) : Prop := q.num.natAbs ≤ 2 ^ b ∧ q.den ≤ 2 ^ b
theorem Zb.le {q : Rat} {a b : Nat} (h : Zb q a) (l : a ≤ b) : Zb q b := ⟨Nat.le_trans h.1 (Nat.pow_le_pow_right (by omega) l), Nat.le_trans h.2 (Nat.pow_le_pow_right (by omega) l)⟩
theorem divInt_parts (n d : Int) (h : d ≠ 0) : (Rat.divInt n d).num.natAbs ≤ n.natAbs ∧ (Rat.divInt n d).den ≤ d.natAbs := by
  obtain ⟨m, hm, h1, h2⟩ := Rat.divInt_num_den (z' := (Rat.divInt n d).den_nz) (c := (Rat.divInt n d).reduced) h rfl
  have hm' : 0 < m.natAbs := by omega
  constructor
  · have e : n.natAbs = (Rat.divInt n d).num.natAbs * m.natAbs := by rw [← Int.natAbs_mul, ← h1]
    rw [e]; exact Nat.le_mul_of_pos_right _ hm'
  · have e : d.natAbs = (Rat.divInt n d).den * m.natAbs := by
      have := congrArg Int.natAbs h2
      rw [Int.natAbs_mul, Int.natAbs_natCast] at this
      exact this
    rw [e]; exact Nat.le_mul_of_pos_right _ hm'
theorem den_ne (q : Rat) : (q.den : Int) ≠ 0 := by have := q.den_nz; omega
theorem den_pos (q : Rat) : (0 : Int) < (q.den : Int) := by have := q.den_nz; omega
theorem add_divInt (x y : Rat) : Rat.divInt (x.num * y.den + y.num * x.den) (x.den * y.den) = x + y := by
  rw [← Rat.divInt_add_divInt _ _ (den_ne x) (den_ne y), Rat.num_divInt_den, Rat.num_divInt_den]
theorem mul_divInt (x y : Rat) : Rat.divInt (x.num * y.num) (x.den * y.den) = x * y := by
  rw [← Rat.divInt_mul_divInt, Rat.num_divInt_den, Rat.num_divInt_den]
theorem div_divInt (x y : Rat) : Rat.divInt (x.num * y.den) (x.den * y.num) = x / y := by
  rw [Rat.div_def, Rat.inv_def, ← Rat.divInt_mul_divInt, Rat.num_divInt_den]
theorem two_mul_le {a b x y : Nat} (h1 : x ≤ 2 ^ a) (h2 : y ≤ 2 ^ b) : x * y ≤ 2 ^ (a + b) := by rw [Nat.pow_add]; exact Nat.mul_le_mul h1 h2
theorem Zb.add {x y : Rat} {a b : Nat} (h1 : Zb x a) (h2 : Zb y b) : Zb (x + y) (a + b + 1) := by
  have hd : ((x.den : Int) * y.den) ≠ 0 := Int.mul_ne_zero (den_ne x) (den_ne y)
  have p := divInt_parts (x.num * y.den + y.num * x.den) (x.den * y.den) hd
  rw [add_divInt] at p
  have e1 := two_mul_le h1.1 h2.2
  have e2 := two_mul_le h2.1 h1.2
  have e3 := two_mul_le h1.2 h2.2
  have e0 : 2 ^ (a + b + 1) = 2 ^ (a + b) + 2 ^ (a + b) := by rw [Nat.pow_succ]; omega
  rw [Nat.add_comm b a] at e2
  refine ⟨Nat.le_trans p.1 (Nat.le_trans (Int.natAbs_add_le _ _) ?_), Nat.le_trans p.2 ?_⟩
  · rw [Int.natAbs_mul, Int.natAbs_mul, Int.natAbs_natCast, Int.natAbs_natCast]; omega
  · rw [Int.natAbs_mul, Int.natAbs_natCast, Int.natAbs_natCast]; omega
theorem Zb.mul {x y : Rat} {a b : Nat} (h1 : Zb x a) (h2 : Zb y b) : Zb (x * y) (a + b) := by
  have hd : ((x.den : Int) * y.den) ≠ 0 := Int.mul_ne_zero (den_ne x) (den_ne y)
  have p := divInt_parts (x.num * y.num) (x.den * y.den) hd
  rw [mul_divInt] at p
  refine ⟨Nat.le_trans p.1 ?_, Nat.le_trans p.2 ?_⟩
  · rw [Int.natAbs_mul]; exact two_mul_le h1.1 h2.1
  · rw [Int.natAbs_mul, Int.natAbs_natCast, Int.natAbs_natCast]; exact two_mul_le h1.2 h2.2
theorem Zb.div {x y : Rat} {a b : Nat} (h1 : Zb x a) (h2 : Zb y b) (hy : y.num ≠ 0) : Zb (x / y) (a + b) := by
  have hd : ((x.den : Int) * y.num) ≠ 0 := Int.mul_ne_zero (den_ne x) hy
  have p := divInt_parts (x.num * y.den) (x.den * y.num) hd
  rw [div_divInt] at p
  refine ⟨Nat.le_trans p.1 ?_, Nat.le_trans p.2 ?_⟩
  · rw [Int.natAbs_mul, Int.natAbs_natCast]; exact two_mul_le h1.1 h2.2
  · rw [Int.natAbs_mul, Int.natAbs_natCast]; exact two_mul_le h1.2 h2.1
theorem Zb.ib_num {q : Rat} {a : Nat} (h : Zb q a) : ib q.num ≤ a + 1 := ib_le h.1
theorem Zb.ib_den {q : Rat} {a : Nat} (h : Zb q a) : ib (q.den : Int) ≤ a + 1 := ib_le (by rw [Int.natAbs_natCast]; exact h.2)
theorem ib_mul {i j : Int} {a b : Nat} (h1 : i.natAbs ≤ 2 ^ a) (h2 : j.natAbs ≤ 2 ^ b) : ib (i * j) ≤ a + b + 1 := ib_le (by rw [Int.natAbs_mul]; exact two_mul_le h1 h2)
theorem e_plus {x y : Rat} {a b : Nat} (h1 : Zb x a) (h2 : Zb y b) (hab : a + b ≤ 8000) (mu : List MO) : F_w_plus [fr x, fr y] mu = .ok (fr (x + y)) mu := by
  have hd : ((x.den : Int) * y.den) ≠ 0 := Int.mul_ne_zero (den_ne x) (den_ne y)
  have h9 : ib ((x.den : Int) * y.den) ≤ 9000 := by
    have := ib_mul (i := (x.den : Int)) (j := (y.den : Int)) (a := a) (b := b) (by rw [Int.natAbs_natCast]; exact h1.2) (by rw [Int.natAbs_natCast]; exact h2.2)
    omega
  have c1 : ib x.num + ib (y.den : Int) ≤ 1000000 := by have := h1.ib_num; have := h2.ib_den; omega
  have c2 : ib y.num + ib (x.den : Int) ≤ 1000000 := by have := h2.ib_num; have := h1.ib_den; omega
  have c3 : ib (x.den : Int) + ib (y.den : Int) ≤ 1000000 := by have := h2.ib_den; have := h1.ib_den; omega
  have h := e_low (x.num * y.den + y.num * x.den) (x.den * y.den) mu hd h9
  rw [add_divInt] at h
  simp [F_w_plus, runBody, d_w_plus, fr, c1, c2, c3]
  rw [h]; rfl
theorem e_through {x y : Rat} {a b : Nat} (h1 : Zb x a) (h2 : Zb y b) (hy : y.num ≠ 0) (hab : a + b ≤ 8000) (mu : List MO) : F_w_through [fr x, fr y] mu = .ok (fr (x / y)) mu := by
  have hd : ((x.den : Int) * y.num) ≠ 0 := Int.mul_ne_zero (den_ne x) hy
  have h9 : ib ((x.den : Int) * y.num) ≤ 9000 := by
    have := ib_mul (i := (x.den : Int)) (j := y.num) (a := a) (b := b) (by rw [Int.natAbs_natCast]; exact h1.2) h2.1
    omega
  have c1 : ib x.num + ib (y.den : Int) ≤ 1000000 := by have := h1.ib_num; have := h2.ib_den; omega
  have c2 : ib (x.den : Int) + ib y.num ≤ 1000000 := by have := h2.ib_num; have := h1.ib_den; omega
  have h := e_low (x.num * y.den) (x.den * y.num) mu hd h9
  rw [div_divInt] at h
  simp [F_w_through, runBody, d_w_through, fr, c1, c2]
  rw [h]; rfl
theorem Zb0 : Zb 0 0 := ⟨by decide, by decide⟩
def sumQ (qs : List Rat) : Rat := qs.foldl (· + ·) 0
end PC
namespace PC
open PySem L3 LD
variable {Fq : List MO → Prop}
theorem Zb_int {i : Int} {b : Nat} (h : i.natAbs ≤ 2 ^ b) : Zb (i : Rat) b := ⟨h, Nat.one_le_two_pow⟩
theorem okDL_fr (n : Nat) : ∀ qs : List Rat, okDL (n + 1) (qs.map fr) = true
  | [] => by simp [okDL]
  | q :: qs => by simp [okDL, okD, fr, okDL_fr n qs]
theorem okD_fr (q : Rat) : okD 8 (fr q) = true := by simp [fr, okD, okDL]
theorem okD_frs (qs : List Rat) : okD 8 (.lst (qs.map fr)) = true := by
  unfold okD; exact okDL_fr 6 qs
theorem flat_fr (q : Rat) : flatP (fr q) = true := by simp [fr, flatP, flatL]
theorem okD_nil : okD 8 (.lst []) = true := by simp [okD, okDL]
@[simp] theorem okD_int (i : Int) : okD 8 (.int i) = true := by simp [okD]
@[simp] theorem okD_bl (i : Bool) : okD 8 (.bl i) = true := by simp [okD]
@[simp] theorem okD_non : okD 8 .non = true := by simp [okD]
@[simp] theorem eqP_int (i j : Int) : eqP (.int i) (.int j) = (i == j) := by simp [eqP]
@[simp] theorem eqP_bl (i j : Bool) : eqP (.bl i) (.bl j) = (i == j) := by simp [eqP]
end PC
namespace PC
open PySem L3 LD
variable {Fq : List MO → Prop}
/-- the value stands for the fraction -/
def Is (q : Rat) (p : PV) : Prop := p = .rat q ∨ (q.den = 1 ∧ p = .int q.num)
def gv (q : Rat) : PV := if 1 < q.den then .rat q else .int q.num
theorem gv_is (q : Rat) : Is q (gv q) := by
  unfold gv Is
  by_cases z : 1 < q.den
  · rw [if_pos z]; exact .inl rfl
  · rw [if_neg z]; exact .inr ⟨by have := q.den_nz; omega, rfl⟩
theorem e_given {a : Nat} (qs : List Rat) (hz : ∀ q ∈ qs, Zb q a) (ha : a ≤ 8000) (hl : qs.length ≤ 10000) (mu : List MO) : F_w_given [.lst (qs.map fr)] mu = .ok (.lst (qs.map gv)) mu := by
  have h := compL_map (t := gT 2 (gCons (gN 1) (gCons (gN 2) gNil))) (tt := dYes) (te := dIf (dTru (dBin gGt (dVar 2) (dC (.int 1)))) (dFn (fMakeR okR) (dCons (dVar 1) (dCons (dVar 2) dNil))) (dVar 1)) (vs := [1, 2])
    (s0 := ⟨[some (.val (.lst (qs.map fr))), none, none], mu⟩) (f := fun p => match p with | .tup [.int n, .int d] => if 1 < d then .rat (Rat.divInt n d) else .int n | _ => .non) (qs.map fr) [] (fun x hx => by
      obtain ⟨q, hq, rfl⟩ := List.mem_map.mp hx
      have h9 : okR q.num q.den = true := by
        unfold okR
        have := (hz q hq).ib_den
        exact decide_eq_true (by omega)
      by_cases z : (1 : Int) < (q.den : Int)
      · refine ⟨⟨[some (.val (.lst (qs.map fr))), some (.val (.int q.num)), some (.val (.int q.den))], mu⟩, ⟨[some (.val (.lst (qs.map fr))), some (.val (.int q.num)), some (.val (.int q.den))], mu⟩, rfl, rfl, ?_, rfl⟩
        have hd : ¬ (q.den : Int) = 0 := den_ne q
        have hd' : ¬ q.den = 0 := q.den_nz
        have z' : 1 < q.den := by omega
        simp [z, z', h9, hd, hd', fr]
      · refine ⟨⟨[some (.val (.lst (qs.map fr))), some (.val (.int q.num)), some (.val (.int q.den))], mu⟩, ⟨[some (.val (.lst (qs.map fr))), some (.val (.int q.num)), some (.val (.int q.den))], mu⟩, rfl, rfl, ?_, rfl⟩
        have z' : ¬ 1 < q.den := by omega
        simp [z, z', fr]) (by simp; omega)
  have e : (qs.map fr).map (fun p => match p with | .tup [.int n, .int d] => if 1 < d then PV.rat (Rat.divInt n d) else .int n | _ => .non) = qs.map gv := by
    rw [List.map_map]
    refine List.map_congr_left fun q _ => ?_
    show (if (1 : Int) < (q.den : Int) then PV.rat (Rat.divInt q.num q.den) else .int q.num) = gv q
    unfold gv
    rw [Rat.num_divInt_den]
    by_cases z : 1 < q.den
    · rw [if_pos z, if_pos (by omega)]
    · rw [if_neg z, if_neg (by omega)]
  rw [e] at h
  simp [F_w_given, runBody, d_w_given, wipeE, h]
end PC
namespace PC
open PySem L3 LD
theorem e_taken (q : Rat) (mu : List MO) : F_w_taken [.rat q] mu = .ok (fr q) mu := rfl
theorem Zb_sum {a : Nat} : ∀ (qs : List Rat) (acc : Rat) (n : Nat), Zb acc n → (∀ q ∈ qs, Zb q a) → Zb (qs.foldl (· + ·) acc) (n + qs.length * (a + 1))
  | [], acc, n, h, _ => by simpa using h
  | q :: qs, acc, n, h, hz => by
    have := Zb_sum qs (acc + q) (n + a + 1) (h.add (hz q List.mem_cons_self)) (fun y hy => hz y (List.mem_cons_of_mem _ hy))
    refine this.le ?_
    rw [List.length_cons, Nat.add_mul]; omega
theorem Is_cases {q : Rat} {p : PV} (h : Is q p) : p = .rat q ∨ ∃ i : Int, q = (i : Rat) ∧ p = .int i := by
  rcases h with h | ⟨h1, h2⟩
  · exact .inl h
  · refine .inr ⟨q.num, ?_, h2⟩
    apply Rat.ext
    · rfl
    · rw [h1]; rfl
theorem e_ratio_of {q : Rat} {p : PV} (h : Is q p) (mu : List MO) : F_ratio_of [p] mu = .ok (.rat q) mu := by
  rcases Is_cases h with rfl | ⟨i, rfl, rfl⟩
  · exact e_ratio_of_r q mu
  · exact e_ratio_of_i i mu
theorem e_is_number {q : Rat} {p : PV} (h : Is q p) (mu : List MO) : F_is_number [p] mu = .ok (.bl true) mu := by
  rcases Is_cases h with rfl | ⟨i, rfl, rfl⟩
  · rfl
  · rfl
theorem e_need_number {q : Rat} {p : PV} (h : Is q p) (mu : List MO) : F_need_number [p] mu = .ok .non mu := by
  rcases Is_cases h with rfl | ⟨i, rfl, rfl⟩
  · rfl
  · rfl
theorem e_over {x y : Rat} {p : PV} {a b : Nat} (h1 : Zb x a) (h2 : Zb y b) (hp : Is y p) (hy : y.num ≠ 0) (hab : a + b ≤ 8000) (mu : List MO) : F_Ratio_over [.rat x, p] mu = .ok (.rat (x / y)) mu := by
  have hd : ((x.den : Int) * y.num) ≠ 0 := Int.mul_ne_zero (den_ne x) hy
  have h9 : okR (x.num * y.den) ((x.den : Int) * y.num) = true := by
    have := ib_mul (i := (x.den : Int)) (j := y.num) (a := a) (b := b) (by rw [Int.natAbs_natCast]; exact h1.2) h2.1
    exact decide_eq_true (by omega)
  have c1 : ib x.num + ib (y.den : Int) ≤ 1000000 := by have := h1.ib_num; have := h2.ib_den; omega
  have c2 : ib (x.den : Int) + ib y.num ≤ 1000000 := by have := h2.ib_num; have := h1.ib_den; omega
  have e1 := e_need_number hp mu
  have e2 := e_ratio_of hp mu
  have hx : ¬ x.den = 0 := x.den_nz
  rw [← div_divInt]
  simp [F_Ratio_over, runBody, d_Ratio_over, e1, e2, c1, c2, h9, hy, hx]
end PC
namespace PC
open PySem L3 LD
inductive All2 : List Rat → List PV → Prop where
  | nil : All2 [] []
  | cons {q : Rat} {p : PV} {qs : List Rat} {ps : List PV} (h : Is q p) (t : All2 qs ps) : All2 (q :: qs) (p :: ps)
theorem All2.len {qs : List Rat} {ps : List PV} (h : All2 qs ps) : qs.length = ps.length := by
  induction h with
  | nil => rfl
  | cons _ _ ih => simp [ih]
theorem All2.mem {qs : List Rat} {ps : List PV} (h : All2 qs ps) {p : PV} (hp : p ∈ ps) : ∃ q ∈ qs, Is q p := by
  induction h with
  | nil => cases hp
  | cons h t ih =>
    rcases List.mem_cons.mp hp with z | z
    · exact ⟨_, List.mem_cons_self, z ▸ h⟩
    · obtain ⟨q, h1, h2⟩ := ih z
      exact ⟨q, List.mem_cons_of_mem _ h1, h2⟩
theorem All2.rat : ∀ qs : List Rat, All2 qs (qs.map .rat)
  | [] => .nil
  | q :: qs => .cons (.inl rfl) (All2.rat qs)
/-- what a value that stands for a fraction is worth -/
def val : PV → Rat
  | .rat q => q
  | .int i => i
  | _ => 0
theorem val_is {q : Rat} {p : PV} (h : Is q p) : val p = q := by
  rcases Is_cases h with rfl | ⟨i, rfl, rfl⟩ <;> rfl
def lcmD (qs : List Rat) : Nat := qs.foldl (fun l q => Nat.lcm l q.den) 1
theorem common_loop {a : Nat} (mu : List MO) (l : PV) : ∀ (qs : List Rat) (L n : Nat) (o : Option SV), 0 < L → L ≤ 2 ^ n → (∀ q ∈ qs, Zb q a) → n + qs.length * a ≤ 8000 → a ≤ 8000 →
    ∃ o', forL (gN 2) (dSet 1 (dBin gMul (dBin gFdiv (dVar 1) (dFnS F_common_divisor (dCons (dVar 1) (dCons (dUn fBot (dVar 2)) dNil)))) (dUn fBot (dVar 2)))) (qs.map .rat) ⟨[some (.val l), some (.val (.int L)), o], mu⟩ =
      .ok .nx ⟨[some (.val l), some (.val (.int (qs.foldl (fun l q => Nat.lcm l q.den) L : Nat))), o'], mu⟩ ∧ 0 < qs.foldl (fun l q => Nat.lcm l q.den) L ∧ qs.foldl (fun l q => Nat.lcm l q.den) L ≤ 2 ^ (n + qs.length * a) ∧ L ∣ qs.foldl (fun l q => Nat.lcm l q.den) L ∧ ∀ q ∈ qs, q.den ∣ qs.foldl (fun l q => Nat.lcm l q.den) L
  | [], L, n, o, h0, h1, _, _, _ => ⟨o, rfl, h0, by simpa using h1, Nat.dvd_refl _, by simp⟩
  | q :: qs, L, n, o, h0, h1, hz, hn, ha => by
    have hq := hz q List.mem_cons_self
    have hd := q.den_pos
    have h5 : (qs.length + 1) * a = qs.length * a + a := by rw [Nat.add_mul, Nat.one_mul]
    rw [List.length_cons, h5] at hn
    have hlcm : Nat.lcm L q.den ≤ 2 ^ (n + a) := by
      have : Nat.lcm L q.den ≤ L * q.den := Nat.le_of_dvd (Nat.mul_pos h0 hd) (Nat.lcm_dvd (Nat.dvd_mul_right ..) (Nat.dvd_mul_left ..))
      exact Nat.le_trans this (two_mul_le h1 hq.2)
    obtain ⟨o', e1, e2, e3, e4, e5⟩ := common_loop mu l qs (Nat.lcm L q.den) (n + a) (some (.val (.rat q))) (Nat.lcm_pos h0 hd) hlcm (fun y hy => hz y (List.mem_cons_of_mem _ hy)) (by omega) ha
    refine ⟨o', ?_, e2, by rw [List.length_cons, h5]; rw [Nat.add_assoc] at e3; rw [Nat.add_comm (qs.length * a) a]; exact e3, Nat.dvd_trans (Nat.dvd_lcm_left ..) e4, fun y hy => ?_⟩
    · have hg0 : 0 < Nat.gcd L q.den := Nat.gcd_pos_of_pos_left _ h0
      have hg : (0 : Int) < (Nat.gcd L q.den : Int) := by omega
      have hgb : ib (Nat.gcd L q.den : Int) ≤ 9000 := by
        have h2 : Nat.gcd L q.den ≤ q.den := Nat.le_of_dvd hd (Nat.gcd_dvd_right ..)
        have := ib_le (i := (Nat.gcd L q.den : Int)) (b := a) (by rw [Int.natAbs_natCast]; exact Nat.le_trans h2 hq.2)
        omega
      have hm : ib ((L : Int) / (Nat.gcd L q.den : Int)) + ib (q.den : Int) ≤ 1000000 := by
        have h2 := ib_le (i := (L : Int) / (Nat.gcd L q.den : Int)) (b := n) (by
          rw [← Int.natCast_ediv, Int.natAbs_natCast]
          exact Nat.le_trans (Nat.div_le_self ..) h1)
        have := hq.ib_den
        omega
      have hL : (L : Int) / (Nat.gcd L q.den : Int) * (q.den : Int) = ((Nat.lcm L q.den : Nat) : Int) := by
        rw [← Int.natCast_ediv, ← Int.natCast_mul]
        congr 1
        unfold Nat.lcm
        rw [Nat.mul_comm, Nat.mul_comm L q.den, Nat.mul_div_assoc _ (Nat.gcd_dvd_left ..)]
      have ecd : F_common_divisor [.int (L : Int), .int (q.den : Int)] mu = .ok (.int (Nat.gcd L q.den : Nat)) mu := e_cd _ _ mu
      rw [List.map_cons]
      conv => lhs; unfold forL
      simp [ecd, hg, hg0, hgb, hm, hL]
      simpa using e1
    · rcases List.mem_cons.mp hy with z | z
      · rw [z]; exact Nat.dvd_trans (Nat.dvd_lcm_right ..) e4
      · exact e5 y z
end PC
namespace PC
open PySem L3 LD
theorem add_same {L : Int} (h : L ≠ 0) (a b : Int) : Rat.divInt a L + Rat.divInt b L = Rat.divInt (a + b) L := by
  rw [Rat.divInt_add_divInt _ _ h h, Rat.divInt_eq_divInt_iff (Int.mul_ne_zero h h) h, ← Int.add_mul, Int.mul_assoc]
def tops (L : Nat) (qs : List Rat) : List Int := qs.map fun q => q.num * ((L : Int) / (q.den : Int))
theorem one_same {L : Nat} {q : Rat} (h0 : 0 < L) (hd : q.den ∣ L) : Rat.divInt (q.num * ((L : Int) / (q.den : Int))) L = q := by
  obtain ⟨m, rfl⟩ := hd
  have e : (((q.den * m : Nat) : Int)) / (q.den : Int) = (m : Int) := by
    rw [← Int.natCast_ediv, Nat.mul_div_cancel_left _ q.den_pos]
  rw [e]
  conv => rhs; rw [← Rat.num_divInt_den q]
  rw [Rat.divInt_eq_divInt_iff (by omega) (den_ne q)]
  rw [Int.natCast_mul, Int.mul_assoc, Int.mul_comm (m : Int)]
theorem tops_sum {L : Nat} (h0 : 0 < L) : ∀ (qs : List Rat) (A : Int), (∀ q ∈ qs, q.den ∣ L) → Rat.divInt (A + (tops L qs).sum) L = qs.foldl (· + ·) (Rat.divInt A L)
  | [], A, _ => by simp [tops]
  | q :: qs, A, h => by
    have hL : (L : Int) ≠ 0 := by omega
    have ih := tops_sum h0 qs (A + q.num * ((L : Int) / (q.den : Int))) fun y hy => h y (List.mem_cons_of_mem _ hy)
    rw [← add_same hL A (q.num * ((L : Int) / (q.den : Int))), one_same h0 (h q List.mem_cons_self)] at ih
    rw [List.foldl_cons, ← ih]
    congr 1
    unfold tops
    rw [List.map_cons, List.sum_cons, Int.add_assoc]
theorem intsP_map : ∀ is : List Int, intsP (is.map PV.int) = some is
  | [] => rfl
  | i :: is => by simp [intsP, intsP_map is]
theorem e_common {a : Nat} (qs : List Rat) (hz : ∀ q ∈ qs, Zb q a) (hl : qs.length * a ≤ 8000) (ha : a ≤ 8000) (hn : qs.length ≤ 10000) (mu : List MO) :
    F_common [.lst (qs.map .rat)] mu = .ok (.tup [.lst ((tops (lcmD qs) qs).map .int), .int (lcmD qs : Nat)]) mu ∧ 0 < lcmD qs ∧ lcmD qs ≤ 2 ^ (qs.length * a) ∧ ∀ q ∈ qs, q.den ∣ lcmD qs := by
  obtain ⟨o', e1, e2, e3, e4, e5⟩ := common_loop (a := a) mu (.lst (qs.map .rat)) qs 1 0 none (by decide) (by decide) hz (by omega) ha
  have e3 : lcmD qs ≤ 2 ^ (qs.length * a) := by rw [Nat.zero_add] at e3; exact e3
  refine ⟨?_, e2, e3, e5⟩
  have e6 := compL_map (t := gN 2) (tt := dYes) (te := dBin gMul (dUn fTop (dVar 2)) (dBin gFdiv (dVar 1) (dUn fBot (dVar 2)))) (vs := [2]) (s0 := ⟨[some (.val (.lst (qs.map PV.rat))), some (.val (.int (lcmD qs : Nat))), none], mu⟩)
    (f := fun p => match p with | .rat q => .int (q.num * (((lcmD qs : Nat) : Int) / (q.den : Int))) | _ => .non) (qs.map .rat) [] (fun x hx => by
      obtain ⟨q, hq, rfl⟩ := List.mem_map.mp hx
      refine ⟨_, ⟨[some (.val (.lst (qs.map PV.rat))), some (.val (.int (lcmD qs : Nat))), some (.val (.rat q))], mu⟩, rfl, rfl, ?_, rfl⟩
      have hd := q.den_pos
      have hdi : (0 : Int) < (q.den : Int) := by omega
      have h9 : ib (q.den : Int) ≤ 9000 := by have := (hz q hq).ib_den; omega
      have hm : ib q.num + ib (((lcmD qs : Nat) : Int) / (q.den : Int)) ≤ 1000000 := by
        have h1 := (hz q hq).ib_num
        have h2 := ib_le (i := ((lcmD qs : Nat) : Int) / (q.den : Int)) (b := qs.length * a) (by
          rw [← Int.natCast_ediv, Int.natAbs_natCast]
          exact Nat.le_trans (Nat.div_le_self ..) e3)
        omega
      simp [hd, hdi, h9, hm]) (by simp; omega)
  have e7 : (qs.map PV.rat).map (fun p => match p with | .rat q => PV.int (q.num * (((lcmD qs : Nat) : Int) / (q.den : Int))) | _ => .non) = (tops (lcmD qs) qs).map .int := by
    unfold tops; rw [List.map_map, List.map_map]; rfl
  rw [e7] at e6
  have e1' : forL (gN 2) (dSet 1 (dBin gMul (dBin gFdiv (dVar 1) (dFnS F_common_divisor (dCons (dVar 1) (dCons (dUn fBot (dVar 2)) dNil)))) (dUn fBot (dVar 2)))) (qs.map .rat) ⟨[some (.val (.lst (qs.map PV.rat))), some (.val (.int 1)), none], mu⟩ = .ok .nx ⟨[some (.val (.lst (qs.map PV.rat))), some (.val (.int (lcmD qs : Nat))), o'], mu⟩ := e1
  simp [F_common, runBody, d_common, e1', e6, wipeE]
theorem e_total {a : Nat} (qs : List Rat) (hz : ∀ q ∈ qs, Zb q a) (hl : qs.length * a ≤ 8000) (ha : a ≤ 8000) (hn : qs.length ≤ 10000) (mu : List MO) : F_total [.lst (qs.map .rat)] mu = .ok (.rat (sumQ qs)) mu := by
  obtain ⟨e1, h0, h1, h2⟩ := e_common qs hz hl ha hn mu
  have e2 := tops_sum h0 qs 0 h2
  rw [Int.zero_add, show Rat.divInt 0 (lcmD qs : Nat) = 0 from by simp] at e2
  have hk : okR (tops (lcmD qs) qs).sum (lcmD qs : Nat) = true := by
    have := ib_le (i := ((lcmD qs : Nat) : Int)) (b := qs.length * a) (by rw [Int.natAbs_natCast]; exact h1)
    exact decide_eq_true (by omega)
  have hb : ¬ lcmD qs = 0 := by omega
  simp [F_total, runBody, d_total, e1, intsP_map, hb, hk, e2, sumQ]
end PC
namespace PC
open PySem L3 LD
variable {Fq : List MO → Prop}
theorem gEq_nil (neg : Bool) (xs : List PV) (s : S) : gEq neg (.lst xs) (.lst []) s = .ok (.bl (xor neg xs.isEmpty)) s := by
  unfold gEq
  have e : eqP (.lst xs) (.lst []) = xs.isEmpty := by unfold eqP; exact eqPL_nil xs
  split
  · rw [e]
  · have e2 : (xs.length == ([] : List PV).length) = xs.isEmpty := by cases xs <;> simp
    unfold fEqE
    simp
    cases xs <;> simp
theorem erase_perm {a : Type} : ∀ (l : List a) (i : Nat) (h : i < l.length), (l[i] :: l.eraseIdx i).Perm l
  | x :: l, 0, _ => .refl _
  | x :: l, i + 1, h => by
    have h' : i < l.length := by simpa using h
    show (l[i] :: x :: l.eraseIdx i).Perm (x :: l)
    exact (List.Perm.swap x l[i] _).trans ((erase_perm l i h').cons x)
theorem own_mixed (a b : PV) (xs ys : List PV) : ownIn [2, 3] [some (SV.val a), some (.val b), some (.own xs), some (.own ys)] = true := rfl
theorem mixed_loop {n : Nat} {it : PV} : ∀ (f : Nat) (rest found : List PV) (mu : List MO) (k : Nat), rest.length < f → SrcR Fq mu n k → k + rest.length ≤ 2 ^ 49 → rest.length + found.length ≤ 10000 →
    ∃ (ys : List PV) (mu' : List MO), whileL (dBorT [2, 3] (dTru (dBin (gEq true) (dVar 2) (dLst dNil)))) (dExpr (dApp 3 (dPopAt 2 (dBor [2, 3] (dFnS F_w_next (dCons (dVar 0) (dCons (dFn fLen (dCons (dVar 2) dNil)) dNil))))))) f ⟨[some (.val (.ptr n)), some (.val it), some (.own rest), some (.own found)], mu⟩ =
      .ok .nx ⟨[some (.val (.ptr n)), some (.val it), some (.own []), some (.own ys)], mu'⟩ ∧ ys.Perm (rest ++ found) ∧ SrcR Fq mu' n (k + rest.length)
  | 0, rest, found, mu, k, hf, _, _, _ => by omega
  | f + 1, [], found, mu, k, hf, h, hk, hl => by
    refine ⟨found, mu, ?_, .refl _, h⟩
    unfold whileL
    simp only [dBorT, own_mixed, if_true, frozS, froz1, List.getElem?_cons_zero, List.getElem?_cons_succ, List.set, dTru, dBin, dVar, dLst, dNil, R.bind, List.length_nil, Nat.zero_le, gEq_nil, List.isEmpty_nil, Bool.true_xor, Bool.not_true, truP, h.flat]
  | f + 1, x :: xs, found, mu, k, hf, h, hk, hl => by
    have h0 : 0 < (x :: xs).length := by simp
    generalize hr : x :: xs = rest at *
    have hne : rest.isEmpty = false := by rw [← hr]; rfl
    obtain ⟨r, m1, a1, a2, a3, a4⟩ := next_ok (m := (rest.length : Int)) h (by omega) (by omega) (by
      have := ib_le (i := (rest.length : Int)) (b := 20) (by rw [Int.natAbs_natCast]; omega)
      omega)
    have hlt : r.toNat < rest.length := by omega
    have hix : L2.ixN rest.length r = some r.toNat := by
      have := ix_of hlt
      rw [Int.toNat_of_nonneg a2] at this
      exact this
    have hget : rest[r.toNat]? = some rest[r.toNat] := by simp [hlt]
    obtain ⟨ys, m2, b1, b2, b3⟩ := mixed_loop (it := it) f (rest.eraseIdx r.toNat) (found ++ [rest[r.toNat]]) m1 (k + 1) (by rw [List.length_eraseIdx_of_lt hlt]; omega) a4 (by rw [List.length_eraseIdx_of_lt hlt]; omega) (by rw [List.length_eraseIdx_of_lt hlt]; simp; omega)
    refine ⟨ys, m2, ?_, b2.trans ?_, b3.le (by rw [List.length_eraseIdx_of_lt hlt]; omega)⟩
    · rw [← b1]
      conv => lhs; unfold whileL
      simp [-gEq, own_mixed, froz1, gEq_nil, hne, h.flat, a1, flatP, a4.flat, hix, hget, show rest.length ≤ 16777216 by omega, show found.length < 16777216 by omega]
    · have p := erase_perm rest r.toNat hlt
      have p2 : (rest.eraseIdx r.toNat ++ (found ++ [rest[r.toNat]])).Perm (rest[r.toNat] :: (rest.eraseIdx r.toNat ++ found)) := by
        rw [← List.append_assoc]
        exact List.perm_append_singleton _ _
      exact p2.trans (List.Perm.append_right found p)
theorem mixed_ok {mu : List MO} {n k : Nat} {xs : List PV} (h : SrcR Fq mu n k) (hk : k + xs.length ≤ 2 ^ 49) (hl : xs.length ≤ 10000) : ∃ (ys : List PV) (mu' : List MO), F_w_mixed [.ptr n, .lst xs] mu = .ok (.lst ys) mu' ∧ ys.Perm xs ∧ SrcR Fq mu' n (k + xs.length) := by
  obtain ⟨ys, m1, a1, a2, a3⟩ := mixed_loop (it := .lst xs) (xs.length + 1) xs [] mu k (Nat.lt_succ_self _) h hk (by simpa using hl)
  refine ⟨ys, m1, ?_, by simpa using a2, a3⟩
  simp [F_w_mixed, runBody, d_w_mixed, a1, froz1]
end PC
namespace PC
open PySem L3 LD
variable {Fq : List MO → Prop}
mutual
theorem eqP_self : ∀ (n : Nat) (p : PV), okD n p = true → eqP p p = true
  | n, .non, _ => by simp [eqP]
  | n, .bl b, _ => by simp [eqP]
  | n, .int i, _ => by simp [eqP]
  | n, .str x, _ => by simp [eqP]
  | n + 1, .tup xs, h => by unfold eqP; exact eqPL_self n xs (by unfold okD at h; exact h)
  | n + 1, .lst xs, h => by unfold eqP; exact eqPL_self n xs (by unfold okD at h; exact h)
  | n + 1, .frz xs, h => by unfold eqP; exact eqPL_self n xs (by unfold okD at h; exact h)
  | 0, .tup xs, h => by unfold okD at h; cases h
  | 0, .lst xs, h => by unfold okD at h; cases h
  | 0, .frz xs, h => by unfold okD at h; cases h
  | n, .rat _, h => by cases n <;> (unfold okD at h; cases h)
  | n, .obj _ _ _, h => by cases n <;> (unfold okD at h; cases h)
  | n, .ptr _, h => by cases n <;> (unfold okD at h; cases h)
  | n, .adr _, h => by cases n <;> (unfold okD at h; cases h)
  | n, .ty _, h => by cases n <;> (unfold okD at h; cases h)
theorem eqPL_self : ∀ (n : Nat) (xs : List PV), okDL n xs = true → eqPL xs xs = true
  | n, [], _ => by simp [eqPL]
  | n, x :: xs, h => by
    have h : (okD n x && okDL n xs) = true := by unfold okDL at h; exact h
    rw [Bool.and_eq_true] at h
    simp [eqPL, eqP_self n x h.1, eqPL_self n xs h.2]
end
theorem gEq_self (neg : Bool) {p : PV} (h : okD 8 p = true) (s : S) : gEq neg p p s = .ok (.bl (!neg)) s := by
  unfold gEq
  rw [if_pos ⟨h, h⟩, eqP_self 8 p h, Bool.xor_true]
end PC
namespace PD
open PySem L3 LD PC
structure Zd (D B : Nat) (q : Rat) : Prop where
  dvd : q.den ∣ D
  le : q.num.natAbs ≤ B * q.den
theorem Zd.mono {D B D' B' : Nat} {q : Rat} (h : Zd D B q) (h1 : D ∣ D') (h2 : B ≤ B') : Zd D' B' q := ⟨Nat.dvd_trans h.dvd h1, Nat.le_trans h.le (Nat.mul_le_mul_right _ h2)⟩
theorem Zd.zb {D B : Nat} {q : Rat} (h : Zd D B q) {b : Nat} (h0 : 0 < D) (hb : B * D ≤ 2 ^ b) (hd : D ≤ 2 ^ b) : Zb q b :=
  have l : q.den ≤ D := Nat.le_of_dvd h0 h.dvd
  ⟨Nat.le_trans h.le (Nat.le_trans (Nat.mul_le_mul_left _ l) hb), Nat.le_trans l hd⟩
/-- a fraction of ints: the lowest terms divide -/
theorem divInt_dvd (n d : Int) (h : d ≠ 0) : (Rat.divInt n d).den ∣ d.natAbs := by
  obtain ⟨m, hm, h1, h2⟩ := Rat.divInt_num_den (z' := (Rat.divInt n d).den_nz) (c := (Rat.divInt n d).reduced) h rfl
  have := congrArg Int.natAbs h2
  rw [Int.natAbs_mul, Int.natAbs_natCast] at this
  exact ⟨m.natAbs, this⟩
theorem divInt_le (n d : Int) (h : d ≠ 0) {B : Nat} (hb : n.natAbs ≤ B * d.natAbs) : (Rat.divInt n d).num.natAbs ≤ B * (Rat.divInt n d).den := by
  obtain ⟨m, hm, h1, h2⟩ := Rat.divInt_num_den (z' := (Rat.divInt n d).den_nz) (c := (Rat.divInt n d).reduced) h rfl
  have e1 : n.natAbs = (Rat.divInt n d).num.natAbs * m.natAbs := by rw [← Int.natAbs_mul, ← h1]
  have e2 : d.natAbs = (Rat.divInt n d).den * m.natAbs := by
    have := congrArg Int.natAbs h2
    rw [Int.natAbs_mul, Int.natAbs_natCast] at this
    exact this
  have hm' : 0 < m.natAbs := by omega
  rw [e1, e2, ← Nat.mul_assoc] at hb
  exact Nat.le_of_mul_le_mul_right hb hm'
theorem Zd.divInt {n d : Int} {D B : Nat} (h : d ≠ 0) (h1 : d.natAbs ∣ D) (h2 : n.natAbs ≤ B * d.natAbs) : Zd D B (Rat.divInt n d) := ⟨Nat.dvd_trans (divInt_dvd n d h) h1, divInt_le n d h h2⟩
theorem Zd.int {i : Int} {B : Nat} (h : i.natAbs ≤ B) : Zd 1 B (i : Rat) := ⟨Nat.dvd_refl _, by rw [show ((i : Rat)).den = 1 from rfl, Nat.mul_one]; exact h⟩
/-- with one bottom L that both divide: tops over it -/
theorem over_common {q : Rat} {D : Nat} (h0 : 0 < D) (h : q.den ∣ D) : ∃ t : Int, q = Rat.divInt t D ∧ ∀ B : Nat, q.num.natAbs ≤ B * q.den → t.natAbs ≤ B * D := by
  obtain ⟨m, hm⟩ := h
  refine ⟨q.num * m, ?_, fun B hB => ?_⟩
  · conv => lhs; rw [← Rat.num_divInt_den q]
    rw [hm, Rat.divInt_eq_divInt_iff (den_ne q) (by rw [← hm]; omega)]
    rw [Int.natCast_mul, Int.mul_assoc, Int.mul_comm (m : Int)]
  · rw [Int.natAbs_mul, Int.natAbs_natCast, hm, ← Nat.mul_assoc]
    exact Nat.mul_le_mul_right _ hB
theorem Zd.add {x y : Rat} {D A B : Nat} (h0 : 0 < D) (hx : Zd D A x) (hy : Zd D B y) : Zd D (A + B) (x + y) := by
  obtain ⟨t, e1, b1⟩ := over_common h0 hx.dvd
  obtain ⟨u, e2, b2⟩ := over_common h0 hy.dvd
  have c1 := b1 A hx.le
  have c2 := b2 B hy.le
  rw [e1, e2, add_same (by omega : ((D : Nat) : Int) ≠ 0)]
  refine Zd.divInt (by omega) (by rw [Int.natAbs_natCast]; exact Nat.dvd_refl _) ?_
  rw [Int.natAbs_natCast, Nat.add_mul]
  exact Nat.le_trans (Int.natAbs_add_le _ _) (Nat.add_le_add c1 c2)
theorem Zd.neg {x : Rat} {D A : Nat} (h : Zd D A x) : Zd D A (-x) := ⟨by rw [Rat.neg_den]; exact h.dvd, by rw [Rat.neg_num, Rat.neg_den, Int.natAbs_neg]; exact h.le⟩
theorem Zd.sub {x y : Rat} {D A B : Nat} (h0 : 0 < D) (hx : Zd D A x) (hy : Zd D B y) : Zd D (A + B) (x - y) := by
  rw [Rat.sub_eq_add_neg]; exact hx.add h0 hy.neg
theorem Zd.mul {x y : Rat} {D E A B : Nat} (hx : Zd D A x) (hy : Zd E B y) : Zd (D * E) (A * B) (x * y) := by
  have hd : ((x.den : Int) * y.den) ≠ 0 := Int.mul_ne_zero (den_ne x) (den_ne y)
  rw [← mul_divInt]
  refine Zd.divInt hd (by rw [Int.natAbs_mul, Int.natAbs_natCast, Int.natAbs_natCast]; exact Nat.mul_dvd_mul hx.dvd hy.dvd) ?_
  rw [Int.natAbs_mul, Int.natAbs_mul, Int.natAbs_natCast, Int.natAbs_natCast]
  have := Nat.mul_le_mul hx.le hy.le
  calc _ ≤ _ := this
    _ = _ := by ac_rfl
theorem Zd.sum {D B : Nat} (h0 : 0 < D) : ∀ (qs : List Rat) (acc : Rat) (A : Nat), Zd D A acc → (∀ q ∈ qs, Zd D B q) → Zd D (A + qs.length * B) (qs.foldl (· + ·) acc)
  | [], acc, A, h, _ => by simpa using h
  | q :: qs, acc, A, h, hz => by
    have := Zd.sum h0 qs (acc + q) (A + B) (h.add h0 (hz q List.mem_cons_self)) (fun y hy => hz y (List.mem_cons_of_mem _ hy))
    refine this.mono (Nat.dvd_refl _) ?_
    rw [List.length_cons, Nat.add_mul]; omega
theorem Zd.zero {D : Nat} : Zd D 0 0 := ⟨Nat.one_dvd _, by decide⟩
theorem Zd.sumz {D B : Nat} (h0 : 0 < D) {qs : List Rat} (h : ∀ q ∈ qs, Zd D B q) : Zd D (qs.length * B) (PC.sumQ qs) := by
  have := Zd.sum h0 qs 0 0 Zd.zero h
  rwa [Nat.zero_add] at this
/-- such fractions are small enough for sums and products of two -/
structure Sm (D B : Nat) : Prop where
  pos : 0 < D
  top : B * D ≤ 2 ^ 3990
  bot : D ≤ 2 ^ 3990
theorem Zd.sm {D B : Nat} {q : Rat} (h : Zd D B q) (s : Sm D B) : Zb q 3990 := h.zb s.pos s.top s.bot
theorem lcm_dvd {D : Nat} : ∀ (qs : List Rat) (L : Nat), L ∣ D → (∀ q ∈ qs, q.den ∣ D) → qs.foldl (fun l q => Nat.lcm l q.den) L ∣ D
  | [], L, h, _ => h
  | q :: qs, L, h, hz => lcm_dvd qs _ (Nat.lcm_dvd h (hz q List.mem_cons_self)) fun y hy => hz y (List.mem_cons_of_mem _ hy)
theorem z_common {D B : Nat} (s : Sm D B) {qs : List Rat} (hz : ∀ q ∈ qs, Zd D B q) (hn : qs.length ≤ 10000) (mu : List MO) :
    F_common [.lst (qs.map .rat)] mu = .ok (.tup [.lst ((tops (lcmD qs) qs).map .int), .int (lcmD qs : Nat)]) mu ∧ 0 < lcmD qs ∧ lcmD qs ∣ D ∧ ∀ q ∈ qs, q.den ∣ lcmD qs := by
  have hdv : ∀ q ∈ qs, q.den ∣ D := fun q hq => (hz q hq).dvd
  have hD := s.pos
  have key : ∀ (qs : List Rat) (L : Nat) (o : Option SV) (l : PV), 0 < L → L ∣ D → (∀ q ∈ qs, Zd D B q) →
      ∃ o', forL (gN 2) (dSet 1 (dBin gMul (dBin gFdiv (dVar 1) (dFnS F_common_divisor (dCons (dVar 1) (dCons (dUn fBot (dVar 2)) dNil)))) (dUn fBot (dVar 2)))) (qs.map .rat) ⟨[some (.val l), some (.val (.int L)), o], mu⟩ =
        .ok .nx ⟨[some (.val l), some (.val (.int (qs.foldl (fun l q => Nat.lcm l q.den) L : Nat))), o'], mu⟩ ∧ 0 < qs.foldl (fun l q => Nat.lcm l q.den) L ∧ L ∣ qs.foldl (fun l q => Nat.lcm l q.den) L ∧ ∀ q ∈ qs, q.den ∣ qs.foldl (fun l q => Nat.lcm l q.den) L := by
    intro qs
    induction qs with
    | nil => exact fun L o l h0 _ _ => ⟨o, rfl, h0, Nat.dvd_refl _, by simp⟩
    | cons q qs ih =>
      intro L o l h0 h1 hz
      have hq := hz q List.mem_cons_self
      have hd := q.den_pos
      obtain ⟨o', e1, e2, e4, e5⟩ := ih (Nat.lcm L q.den) (some (.val (.rat q))) l (Nat.lcm_pos h0 hd) (Nat.lcm_dvd h1 hq.dvd) (fun y hy => hz y (List.mem_cons_of_mem _ hy))
      have hqz := hq.sm s
      refine ⟨o', ?_, e2, Nat.dvd_trans (Nat.dvd_lcm_left ..) e4, fun y hy => ?_⟩
      · have hg0 : 0 < Nat.gcd L q.den := Nat.gcd_pos_of_pos_left _ h0
        have hg : (0 : Int) < (Nat.gcd L q.den : Int) := by omega
        have hL2 : L ≤ 2 ^ 3990 := Nat.le_trans (Nat.le_of_dvd hD h1) s.bot
        have hgb : ib (Nat.gcd L q.den : Int) ≤ 9000 := by
          have h2 : Nat.gcd L q.den ≤ q.den := Nat.le_of_dvd hd (Nat.gcd_dvd_right ..)
          have := ib_le (i := (Nat.gcd L q.den : Int)) (b := 3990) (by rw [Int.natAbs_natCast]; exact Nat.le_trans h2 hqz.2)
          omega
        have hm : ib ((L : Int) / (Nat.gcd L q.den : Int)) + ib (q.den : Int) ≤ 1000000 := by
          have h2 := ib_le (i := (L : Int) / (Nat.gcd L q.den : Int)) (b := 3990) (by
            rw [← Int.natCast_ediv, Int.natAbs_natCast]
            exact Nat.le_trans (Nat.div_le_self ..) hL2)
          have := hqz.ib_den
          omega
        have hL : (L : Int) / (Nat.gcd L q.den : Int) * (q.den : Int) = ((Nat.lcm L q.den : Nat) : Int) := by
          rw [← Int.natCast_ediv, ← Int.natCast_mul]
          congr 1
          unfold Nat.lcm
          rw [Nat.mul_comm, Nat.mul_comm L q.den, Nat.mul_div_assoc _ (Nat.gcd_dvd_left ..)]
        have ecd : F_common_divisor [.int (L : Int), .int (q.den : Int)] mu = .ok (.int (Nat.gcd L q.den : Nat)) mu := e_cd _ _ mu
        rw [List.map_cons]
        conv => lhs; unfold forL
        simp [ecd, hg, hg0, hgb, hm, hL]
        simpa using e1
      · rcases List.mem_cons.mp hy with z | z
        · rw [z]; exact Nat.dvd_trans (Nat.dvd_lcm_right ..) e4
        · exact e5 y z
  obtain ⟨o', e1, e2, e4, e5⟩ := key qs 1 none (.lst (qs.map .rat)) (by decide) (Nat.one_dvd _) hz
  have hdvd : lcmD qs ∣ D := lcm_dvd qs 1 (Nat.one_dvd _) hdv
  have hlc : lcmD qs ≤ 2 ^ 3990 := Nat.le_trans (Nat.le_of_dvd hD hdvd) s.bot
  refine ⟨?_, e2, hdvd, e5⟩
  have e6 := compL_map (t := gN 2) (tt := dYes) (te := dBin gMul (dUn fTop (dVar 2)) (dBin gFdiv (dVar 1) (dUn fBot (dVar 2)))) (vs := [2]) (s0 := ⟨[some (.val (.lst (qs.map PV.rat))), some (.val (.int (lcmD qs : Nat))), none], mu⟩)
    (f := fun p => match p with | .rat q => .int (q.num * (((lcmD qs : Nat) : Int) / (q.den : Int))) | _ => .non) (qs.map .rat) [] (fun x hx => by
      obtain ⟨q, hq, rfl⟩ := List.mem_map.mp hx
      refine ⟨_, ⟨[some (.val (.lst (qs.map PV.rat))), some (.val (.int (lcmD qs : Nat))), some (.val (.rat q))], mu⟩, rfl, rfl, ?_, rfl⟩
      have hd := q.den_pos
      have hdi : (0 : Int) < (q.den : Int) := by omega
      have hqz := (hz q hq).sm s
      have h9 : ib (q.den : Int) ≤ 9000 := by have := hqz.ib_den; omega
      have hm : ib q.num + ib (((lcmD qs : Nat) : Int) / (q.den : Int)) ≤ 1000000 := by
        have h1 := hqz.ib_num
        have h2 := ib_le (i := ((lcmD qs : Nat) : Int) / (q.den : Int)) (b := 3990) (by
          rw [← Int.natCast_ediv, Int.natAbs_natCast]
          exact Nat.le_trans (Nat.div_le_self ..) hlc)
        omega
      simp [hd, hdi, h9, hm]) (by simp; omega)
  have e7 : (qs.map PV.rat).map (fun p => match p with | .rat q => PV.int (q.num * (((lcmD qs : Nat) : Int) / (q.den : Int))) | _ => .non) = (tops (lcmD qs) qs).map .int := by
    unfold tops; rw [List.map_map, List.map_map]; rfl
  rw [e7] at e6
  have e1' : forL (gN 2) (dSet 1 (dBin gMul (dBin gFdiv (dVar 1) (dFnS F_common_divisor (dCons (dVar 1) (dCons (dUn fBot (dVar 2)) dNil)))) (dUn fBot (dVar 2)))) (qs.map .rat) ⟨[some (.val (.lst (qs.map PV.rat))), some (.val (.int 1)), none], mu⟩ = .ok .nx ⟨[some (.val (.lst (qs.map PV.rat))), some (.val (.int (lcmD qs : Nat))), o'], mu⟩ := e1
  simp [F_common, runBody, d_common, e1', e6, wipeE]
theorem z_total {D B : Nat} (s : Sm D B) {qs : List Rat} (hz : ∀ q ∈ qs, Zd D B q) (hn : qs.length ≤ 10000) (mu : List MO) : F_total [.lst (qs.map .rat)] mu = .ok (.rat (sumQ qs)) mu := by
  obtain ⟨e1, h0, h1, h2⟩ := z_common s hz hn mu
  have e2 := tops_sum h0 qs 0 h2
  rw [Int.zero_add, show Rat.divInt 0 (lcmD qs : Nat) = 0 from by simp] at e2
  have hk : okR (tops (lcmD qs) qs).sum (lcmD qs : Nat) = true := by
    have := ib_le (i := ((lcmD qs : Nat) : Int)) (b := 3990) (by rw [Int.natAbs_natCast]; exact Nat.le_trans (Nat.le_of_dvd s.pos h1) s.bot)
    exact decide_eq_true (by omega)
  have hb : ¬ lcmD qs = 0 := by omega
  simp [F_total, runBody, d_total, e1, intsP_map, hb, hk, e2, sumQ]
theorem Sm.le {D B D' B' : Nat} (s : Sm D B) (h1 : 0 < D') (h2 : D' ≤ D) (h3 : B' ≤ B) : Sm D' B' := ⟨h1, Nat.le_trans (Nat.mul_le_mul h3 h2) s.top, Nat.le_trans h2 s.bot⟩
/-- the mean of ratios; N bounds how many they are -/
theorem z_mean_of {D B N : Nat} (s : Sm D (N * B)) (hB : 1 ≤ B) {qs : List Rat} (hz : ∀ q ∈ qs, Zd D B q) (hne : qs ≠ []) (hn : qs.length ≤ N) (hN : N ≤ 10000) (mu : List MO) : F_mean_of [.lst (qs.map .rat)] mu = .ok (.rat (sumQ qs / (qs.length : Int))) mu := by
  have h0 : 0 < qs.length := List.length_pos_iff.mpr hne
  have sB : Sm D B := s.le s.pos (Nat.le_refl _) (Nat.le_mul_of_pos_left _ (by omega))
  have e2 := z_total sB hz (by omega) mu
  have zs := ((Zd.sumz s.pos hz).mono (Nat.dvd_refl _) (Nat.mul_le_mul_right _ hn)).sm s
  have e3 := e_over (x := sumQ qs) (y := ((qs.length : Int) : Rat)) (p := .int (qs.length : Int)) (a := 3990) (b := 14) zs (Zb_int (by omega)) (.inr ⟨rfl, rfl⟩) (by show (qs.length : Int) ≠ 0; omega) (by omega) mu
  simp [F_mean_of, runBody, d_mean_of, e2, e3]
end PD
namespace PD
open PySem L3 LD PC
theorem sub_divInt (x y : Rat) : Rat.divInt (x.num * y.den - y.num * x.den) (x.den * y.den) = x - y := by
  rw [Rat.sub_eq_add_neg, ← add_divInt]
  rw [Rat.neg_num, Rat.neg_den]
  congr 1
  rw [Int.neg_mul, Int.sub_eq_add_neg]
theorem e_minus {x y : Rat} {a b : Nat} (h1 : Zb x a) (h2 : Zb y b) (hab : a + b ≤ 8000) (mu : List MO) : F_w_minus [fr x, fr y] mu = .ok (fr (x - y)) mu := by
  have hd : ((x.den : Int) * y.den) ≠ 0 := Int.mul_ne_zero (den_ne x) (den_ne y)
  have h9 : ib ((x.den : Int) * y.den) ≤ 9000 := by
    have := ib_mul (i := (x.den : Int)) (j := (y.den : Int)) (a := a) (b := b) (by rw [Int.natAbs_natCast]; exact h1.2) (by rw [Int.natAbs_natCast]; exact h2.2)
    omega
  have c1 : ib x.num + ib (y.den : Int) ≤ 1000000 := by have := h1.ib_num; have := h2.ib_den; omega
  have c2 : ib y.num + ib (x.den : Int) ≤ 1000000 := by have := h2.ib_num; have := h1.ib_den; omega
  have c3 : ib (x.den : Int) + ib (y.den : Int) ≤ 1000000 := by have := h2.ib_den; have := h1.ib_den; omega
  have h := e_low (x.num * y.den - y.num * x.den) (x.den * y.den) mu hd h9
  rw [sub_divInt] at h
  simp [F_w_minus, runBody, d_w_minus, fr, c1, c2, c3]
  rw [h]; rfl
theorem e_times {x y : Rat} {a b : Nat} (h1 : Zb x a) (h2 : Zb y b) (hab : a + b ≤ 8000) (mu : List MO) : F_w_times [fr x, fr y] mu = .ok (fr (x * y)) mu := by
  have hd : ((x.den : Int) * y.den) ≠ 0 := Int.mul_ne_zero (den_ne x) (den_ne y)
  have h9 : ib ((x.den : Int) * y.den) ≤ 9000 := by
    have := ib_mul (i := (x.den : Int)) (j := (y.den : Int)) (a := a) (b := b) (by rw [Int.natAbs_natCast]; exact h1.2) (by rw [Int.natAbs_natCast]; exact h2.2)
    omega
  have c1 : ib x.num + ib y.num ≤ 1000000 := by have := h1.ib_num; have := h2.ib_num; omega
  have c3 : ib (x.den : Int) + ib (y.den : Int) ≤ 1000000 := by have := h2.ib_den; have := h1.ib_den; omega
  have h := e_low (x.num * y.num) (x.den * y.den) mu hd h9
  rw [mul_divInt] at h
  simp [F_w_times, runBody, d_w_times, fr, c1, c3]
  rw [h]; rfl
theorem e_sub {x y : Rat} {p : PV} {a b : Nat} (h1 : Zb x a) (h2 : Zb y b) (hp : Is y p) (hab : a + b ≤ 8000) (mu : List MO) : F_Ratio___sub__ [.rat x, p] mu = .ok (.rat (x - y)) mu := by
  have hd : ((x.den : Int) * y.den) ≠ 0 := Int.mul_ne_zero (den_ne x) (den_ne y)
  have h9 : okR (x.num * y.den - y.num * x.den) ((x.den : Int) * y.den) = true := by
    have := ib_mul (i := (x.den : Int)) (j := (y.den : Int)) (a := a) (b := b) (by rw [Int.natAbs_natCast]; exact h1.2) (by rw [Int.natAbs_natCast]; exact h2.2)
    exact decide_eq_true (by omega)
  have c1 : ib x.num + ib (y.den : Int) ≤ 1000000 := by have := h1.ib_num; have := h2.ib_den; omega
  have c2 : ib y.num + ib (x.den : Int) ≤ 1000000 := by have := h2.ib_num; have := h1.ib_den; omega
  have c3 : ib (x.den : Int) + ib (y.den : Int) ≤ 1000000 := by have := h2.ib_den; have := h1.ib_den; omega
  have e2 := e_ratio_of hp mu
  have hx : ¬ x.den = 0 := x.den_nz
  have hy : ¬ y.den = 0 := y.den_nz
  rw [← sub_divInt]
  simp [F_Ratio___sub__, runBody, d_Ratio___sub__, e2, c1, c2, c3, h9, hx, hy]
theorem e_mul {x y : Rat} {p : PV} {a b : Nat} (h1 : Zb x a) (h2 : Zb y b) (hp : Is y p) (hab : a + b ≤ 8000) (mu : List MO) : F_Ratio___mul__ [.rat x, p] mu = .ok (.rat (x * y)) mu := by
  have hd : ((x.den : Int) * y.den) ≠ 0 := Int.mul_ne_zero (den_ne x) (den_ne y)
  have h9 : okR (x.num * y.num) ((x.den : Int) * y.den) = true := by
    have := ib_mul (i := (x.den : Int)) (j := (y.den : Int)) (a := a) (b := b) (by rw [Int.natAbs_natCast]; exact h1.2) (by rw [Int.natAbs_natCast]; exact h2.2)
    exact decide_eq_true (by omega)
  have c1 : ib x.num + ib y.num ≤ 1000000 := by have := h1.ib_num; have := h2.ib_num; omega
  have c3 : ib (x.den : Int) + ib (y.den : Int) ≤ 1000000 := by have := h2.ib_den; have := h1.ib_den; omega
  have e2 := e_ratio_of hp mu
  have hx : ¬ x.den = 0 := x.den_nz
  have hy : ¬ y.den = 0 := y.den_nz
  rw [← mul_divInt]
  simp [F_Ratio___mul__, runBody, d_Ratio___mul__, e2, c1, c3, h9, hx, hy]
theorem rat_eq (x y : Rat) : (decide (x = y)) = ((x.num == y.num) && ((x.den : Int) == (y.den : Int))) := by
  by_cases h : x = y
  · subst h; simp
  · rw [decide_eq_false h]
    by_cases h1 : x.num = y.num
    · have h2 : ¬ x.den = y.den := fun h2 => h (Rat.ext h1 h2)
      have h3 : ((x.den : Int) == (y.den : Int)) = false := by
        rw [beq_eq_false_iff_ne]; exact fun z => h2 (by omega)
      rw [h3, Bool.and_false]
    · have h3 : (x.num == y.num) = false := by rw [beq_eq_false_iff_ne]; exact h1
      rw [h3, Bool.false_and]
theorem e_eq {x y : Rat} {p : PV} (hp : Is y p) (mu : List MO) : F_Ratio___eq__ [.rat x, p] mu = .ok (.bl (decide (x = y))) mu := by
  have e1 := e_is_number hp mu
  have e2 := e_ratio_of hp mu
  rw [rat_eq]
  by_cases h1 : x.num = y.num
  · have h3 : (x.num == y.num) = true := by simpa using h1
    simp [F_Ratio___eq__, runBody, d_Ratio___eq__, e1, e2, h3]
  · have h3 : (x.num == y.num) = false := by simpa using h1
    simp [F_Ratio___eq__, runBody, d_Ratio___eq__, e1, e2, h3]
end PD
namespace Gk30
open PySem PySem.Spec PyProof.Rows L2 L3 LD
structure Fs (K : PySem.W.Frag) (mg : Str → Option Value) (CR : Addr) : Prop where
  n_abs : mg "abs" = none
  n_bool : mg "bool" = none
  n_enumerate : mg "enumerate" = none
  n_int : mg "int" = none
  n_isinstance : mg "isinstance" = none
  n_len : mg "len" = none
  n_list : mg "list" = none
  n_min : mg "min" = none
  n_range : mg "range" = none
  n_sorted : mg "sorted" = none
  n_sum : mg "sum" = none
  n_tuple : mg "tuple" = none
  mR : mg "Ratio" = some (.ref CR)
  T : ClsR K CR
  I : IsiR K CR
  F_own_top : ClsF K [CR] "own_top"
  F_own_bottom : ClsF K [CR] "own_bottom"
  FN_own_height : ClsFN K ["Line"] "own_height"
  FN_own_slope : ClsFN K ["Line"] "own_slope"
  c_MOST_ITEMS : ∃ t, mg "MOST_ITEMS" = some (.int 1000 t)
  c_MOST_MIDDLE : ∃ t, mg "MOST_MIDDLE" = some (.int 40 t)
section
variable {P : Program} {w : World} {K : PySem.W.Frag} {mg : Str → Option Value} {base : Heap} {CR : Addr}
theorem sc_BadPairs___init__ : FnScope ["self", "index"] ["self", "index"] (defScope s_BadPairs___init__) := ⟨rfl, rfl, rfl, by decide +kernel, rfl, by decide +kernel, by decide +kernel⟩
theorem sc_BadNumber___init__ : FnScope ["self", "value"] ["self", "value"] (defScope s_BadNumber___init__) := ⟨rfl, rfl, rfl, by decide +kernel, rfl, by decide +kernel, by decide +kernel⟩
theorem sc_TooMany___init__ : FnScope ["self", "most"] ["self", "most"] (defScope s_TooMany___init__) := ⟨rfl, rfl, rfl, by decide +kernel, rfl, by decide +kernel, by decide +kernel⟩
theorem sc_w_source : FnScope ["_law_script", "_law_k", "_law_cell"] ["_law_script", "_law_k"] (defScope s_w_source) := ⟨rfl, rfl, rfl, by decide +kernel, rfl, by decide +kernel, by decide +kernel⟩
theorem ok_w_source (E : Fs K mg CR)  {f : Addr} {fd : FuncData} (F : FunD K "_law_source" "_law_source" (defArgs s_w_source) (defBody s_w_source) (defScope s_w_source) [] [] f fd) : FJ P w K mg base CR 1 f fd ["_law_script", "_law_k"] (runBody 3 d_w_source) :=
  jf_fn F sc_w_source fun cdv A outer s H E' Nn hr => by
    have nd := sc_w_source.nd
    have hu := hr.units
    exact (js_cons (js_set (i := 2) nd (j_if (jt_cmp (o_neA hu) (jv 0) (j_lst ja_nil)) (j_ix (jv 0) (j_bin o_mod (jv 1) (j_callB c_len rfl E.n_len (by decide +kernel) (ja_cons (jv 0) ja_nil)))) j_int)) (js_one (js_ret (j_new (jf_lst (ja_cons (jv 2) (ja_cons (j_bin o_mul j_int (jv 1)) (ja_cons (j_if (jt_cmp o_geI (jv 2) (j_bin o_pow j_int j_int)) (j_bin o_fdiv (jv 2) (j_bin o_pow j_int j_int)) j_int) ja_nil))))))))
theorem sc_w_next : FnScope ["_law_source_here", "_law_many", "_law_primes", "_law_prime", "_law_found"] ["_law_source_here", "_law_many"] (defScope s_w_next) := ⟨rfl, rfl, rfl, by decide +kernel, rfl, by decide +kernel, by decide +kernel⟩
theorem ok_w_next (E : Fs K mg CR)  {f : Addr} {fd : FuncData} (F : FunD K "_law_next" "_law_next" (defArgs s_w_next) (defBody s_w_next) (defScope s_w_next) [] [] f fd) : FJ P w K mg base CR 1 f fd ["_law_source_here", "_law_many"] (runBody 5 d_w_next) :=
  jf_fn F sc_w_next fun cdv A outer s H E' Nn hr => by
    have nd := sc_w_next.nd
    have hu := hr.units
    exact (js_cons (js_if (jt_cmp o_gtI (j_ix (jv 0) j_int) j_int) (js_cons (js_set (i := 4) nd (j_bin o_mod (j_ix (jv 0) j_int) (jv 1))) (js_cons (js_put (i := 0) (j_bin o_fdiv (j_ix (jv 0) j_int) (jv 1)) j_int) (js_one (js_ret (jv 4))))) js_nil) (js_cons (js_put (i := 0) (j_bin o_add (j_ix (jv 0) j_int) j_int) j_int) (js_cons (js_set (i := 2) nd (j_lst (ja_cons j_int (ja_cons j_int (ja_cons j_int (ja_cons j_int (ja_cons j_int (ja_cons j_int (ja_cons j_int (ja_cons j_int ja_nil)))))))))) (js_cons (js_set (i := 3) nd (j_ix (j_bin o_add (jv 2) (j_lst (ja_cons j_int (ja_cons j_int (ja_cons j_int ja_nil))))) (j_bin o_mod (j_ix (jv 0) j_int) j_int))) (js_one (js_ret (j_bin o_mod (j_bin o_fdiv (j_bin o_mod (j_bin o_pow (j_bin o_add (j_bin o_add (j_bin o_mod (j_ix (jv 0) j_int) (jv 3)) (j_bin o_mul j_int (j_ix (jv 0) j_int))) j_int) j_int) (jv 3)) j_int) (jv 1))))))))
theorem sc_w_pick : FnScope ["_law_source_here", "_law_items"] ["_law_source_here", "_law_items"] (defScope s_w_pick) := ⟨rfl, rfl, rfl, by decide +kernel, rfl, by decide +kernel, by decide +kernel⟩
theorem ok_w_pick (E : Fs K mg CR) (h_w_next : Has P w K mg base CR "_law_next" 1 ["_law_source_here", "_law_many"] F_w_next) {f : Addr} {fd : FuncData} (F : FunD K "_law_pick" "_law_pick" (defArgs s_w_pick) (defBody s_w_pick) (defScope s_w_pick) [] [] f fd) : FJ P w K mg base CR 2 f fd ["_law_source_here", "_law_items"] (runBody 2 d_w_pick) :=
  jf_fn F sc_w_pick fun cdv A outer s H E' Nn hr => by
    have nd := sc_w_pick.nd
    have hu := hr.units
    exact (js_one (js_ret (j_ix (jv 1) (j_callH h_w_next (hr.mono (by decide)) (takes_of rfl rfl rfl (E₁ := _) rfl) (ja_cons (jv 0) (ja_cons (j_callB c_len rfl E.n_len (by decide +kernel) (ja_cons (jv 1) ja_nil)) ja_nil))))))
theorem sc_w_low : FnScope ["_law_top", "_law_bottom", "_law_one", "_law_other"] ["_law_top", "_law_bottom"] (defScope s_w_low) := ⟨rfl, rfl, rfl, by decide +kernel, rfl, by decide +kernel, by decide +kernel⟩
theorem ok_w_low (E : Fs K mg CR)  {f : Addr} {fd : FuncData} (F : FunD K "_law_low" "_law_low" (defArgs s_w_low) (defBody s_w_low) (defScope s_w_low) [] [] f fd) : FJ P w K mg base CR 1 f fd ["_law_top", "_law_bottom"] (runBody 4 d_w_low) :=
  jf_fn F sc_w_low fun cdv A outer s H E' Nn hr => by
    have nd := sc_w_low.nd
    have hu := hr.units
    exact (js_cons (js_par2 rfl nd (ja_cons (j_callB c_abs rfl E.n_abs (by decide +kernel) (ja_cons (jv 0) ja_nil)) (ja_cons (j_callB c_abs rfl E.n_abs (by decide +kernel) (ja_cons (jv 1) ja_nil)) ja_nil))) (js_cons (js_while (fuel := (fuI 3)) (passes_of rfl) (jt_cmp (o_neA hu) (jv 3) j_int) (js_one (js_par2 rfl nd (ja_cons (jv 3) (ja_cons (j_bin o_mod (jv 2) (jv 3)) ja_nil))))) (js_one (js_ret (j_if (jt_cmp o_gtI (jv 1) j_int) (j_tup (ja_cons (j_bin o_fdiv (jv 0) (jv 2)) (ja_cons (j_bin o_fdiv (jv 1) (jv 2)) ja_nil))) (j_tup (ja_cons (j_bin o_sub j_int (j_bin o_fdiv (jv 0) (jv 2))) (ja_cons (j_bin o_sub j_int (j_bin o_fdiv (jv 1) (jv 2))) ja_nil))))))))
theorem sc_w_drawn : FnScope ["_law_source_here", "_law_way"] ["_law_source_here"] (defScope s_w_drawn) := ⟨rfl, rfl, rfl, by decide +kernel, rfl, by decide +kernel, by decide +kernel⟩
theorem ok_w_drawn (E : Fs K mg CR) (h_w_next : Has P w K mg base CR "_law_next" 1 ["_law_source_here", "_law_many"] F_w_next) (h_w_low : Has P w K mg base CR "_law_low" 1 ["_law_top", "_law_bottom"] F_w_low) {f : Addr} {fd : FuncData} (F : FunD K "_law_drawn" "_law_drawn" (defArgs s_w_drawn) (defBody s_w_drawn) (defScope s_w_drawn) [] [] f fd) : FJ P w K mg base CR 2 f fd ["_law_source_here"] (runBody 2 d_w_drawn) :=
  jf_fn F sc_w_drawn fun cdv A outer s H E' Nn hr => by
    have nd := sc_w_drawn.nd
    have hu := hr.units
    exact (js_cons (js_set (i := 1) nd (j_callH h_w_next (hr.mono (by decide)) (takes_of rfl rfl rfl (E₁ := _) rfl) (ja_cons (jv 0) (ja_cons j_int ja_nil)))) (js_cons (js_if (jt_cmp o_ltI (jv 1) j_int) (js_one (js_ret (j_tup (ja_cons (j_bin o_sub (j_callH h_w_next (hr.mono (by decide)) (takes_of rfl rfl rfl (E₁ := _) rfl) (ja_cons (jv 0) (ja_cons j_int ja_nil))) j_int) (ja_cons j_int ja_nil))))) js_nil) (js_one (js_ret (j_callH h_w_low (hr.mono (by decide)) (takes_of rfl rfl rfl (E₁ := _) rfl) (ja_cons (j_bin o_sub (j_callH h_w_next (hr.mono (by decide)) (takes_of rfl rfl rfl (E₁ := _) rfl) (ja_cons (jv 0) (ja_cons j_int ja_nil))) j_int) (ja_cons (j_bin o_add j_int (j_callH h_w_next (hr.mono (by decide)) (takes_of rfl rfl rfl (E₁ := _) rfl) (ja_cons (jv 0) (ja_cons (j_if (jt_cmp (o_eqA hu) (jv 1) j_int) j_int j_int) ja_nil)))) ja_nil)))))))
theorem sc_w_dots : FnScope ["_law_source_here", "_law_least", "_law_most", "_law_found", "_law_turn", "_law_near", "_law_far"] ["_law_source_here", "_law_least", "_law_most"] (defScope s_w_dots) := ⟨rfl, rfl, rfl, by decide +kernel, rfl, by decide +kernel, by decide +kernel⟩
theorem ok_w_dots (E : Fs K mg CR) (h_w_next : Has P w K mg base CR "_law_next" 1 ["_law_source_here", "_law_many"] F_w_next) (h_w_pick : Has P w K mg base CR "_law_pick" 2 ["_law_source_here", "_law_items"] F_w_pick) (h_w_drawn : Has P w K mg base CR "_law_drawn" 2 ["_law_source_here"] F_w_drawn) {f : Addr} {fd : FuncData} (F : FunD K "_law_dots" "_law_dots" (defArgs s_w_dots) (defBody s_w_dots) (defScope s_w_dots) [] [] f fd) : FJ P w K mg base CR 3 f fd ["_law_source_here", "_law_least", "_law_most"] (runBody 7 d_w_dots) :=
  jf_fn F sc_w_dots fun cdv A outer s H E' Nn hr => by
    have nd := sc_w_dots.nd
    have hu := hr.units
    exact (js_cons (js_own (i := 3) nd (jf_lst ja_nil)) (js_cons (js_for (passes_of rfl) rfl (ji_range1 (ja_cons (j_bin o_add (jv 1) (j_callH h_w_next (hr.mono (by decide)) (takes_of rfl rfl rfl (E₁ := _) rfl) (ja_cons (jv 0) (ja_cons (j_bin o_add (j_bin o_sub (jv 2) (jv 1)) j_int) ja_nil)))) ja_nil) E.n_range) (jg_name 4 nd) (js_cons (js_set (i := 5) nd (j_bor (is := [3]) (j_if (jt_w (jw_and (jt_cmp (o_neA hu) (jv 3) (j_lst ja_nil)) (jw_and1 (jt_cmp (o_eqA hu) (j_callH h_w_next (hr.mono (by decide)) (takes_of rfl rfl rfl (E₁ := _) rfl) (ja_cons (jv 0) (ja_cons j_int ja_nil))) j_int)))) (j_ix (j_callH h_w_pick (hr.mono (by decide)) (takes_of rfl rfl rfl (E₁ := _) rfl) (ja_cons (jv 0) (ja_cons (jv 3) ja_nil))) j_int) (j_callH h_w_drawn (hr.mono (by decide)) (takes_of rfl rfl rfl (E₁ := _) rfl) (ja_cons (jv 0) ja_nil))))) (js_cons (js_set (i := 6) nd (j_bor (is := [3]) (j_if (jt_w (jw_and (jt_cmp (o_neA hu) (jv 3) (j_lst ja_nil)) (jw_and1 (jt_cmp (o_eqA hu) (j_callH h_w_next (hr.mono (by decide)) (takes_of rfl rfl rfl (E₁ := _) rfl) (ja_cons (jv 0) (ja_cons j_int ja_nil))) j_int)))) (j_ix (j_callH h_w_pick (hr.mono (by decide)) (takes_of rfl rfl rfl (E₁ := _) rfl) (ja_cons (jv 0) (ja_cons (jv 3) ja_nil))) j_int) (j_callH h_w_drawn (hr.mono (by decide)) (takes_of rfl rfl rfl (E₁ := _) rfl) (ja_cons (jv 0) ja_nil))))) (js_one (js_expr (j_app (i := 3) (j_tup (ja_cons (jv 5) (ja_cons (jv 6) ja_nil))))))))) (js_one (js_frz (is := [3]) (js_ret (jv 3))))))
theorem sc_is_integer : FnScope ["value"] ["value"] (defScope s_is_integer) := ⟨rfl, rfl, rfl, by decide +kernel, rfl, by decide +kernel, by decide +kernel⟩
theorem ok_is_integer (E : Fs K mg CR)  {f : Addr} {fd : FuncData} (F : FunD K "is_integer" "is_integer" (defArgs s_is_integer) (defBody s_is_integer) (defScope s_is_integer) [] [] f fd) : FJ P w K mg base CR 1 f fd ["value"] (runBody 1 d_is_integer) :=
  jf_fn F sc_is_integer fun cdv A outer s H E' Nn hr => by
    have nd := sc_is_integer.nd
    have hu := hr.units
    exact (js_one (js_ret (j_and (j_isT E.I.kk E.I.int E.n_int (by decide +kernel) E.n_isinstance (jv 0)) (j_one (j_not (j_isT E.I.kk E.I.bool E.n_bool (by decide +kernel) E.n_isinstance (jv 0)))))))
theorem sc_common_divisor : FnScope ["one", "other"] ["one", "other"] (defScope s_common_divisor) := ⟨rfl, rfl, rfl, by decide +kernel, rfl, by decide +kernel, by decide +kernel⟩
theorem ok_common_divisor (E : Fs K mg CR)  {f : Addr} {fd : FuncData} (F : FunD K "common_divisor" "common_divisor" (defArgs s_common_divisor) (defBody s_common_divisor) (defScope s_common_divisor) [] [] f fd) : FJ P w K mg base CR 1 f fd ["one", "other"] (runBody 2 d_common_divisor) :=
  jf_fn F sc_common_divisor fun cdv A outer s H E' Nn hr => by
    have nd := sc_common_divisor.nd
    have hu := hr.units
    exact (js_cons (js_par2 rfl nd (ja_cons (j_callB c_abs rfl E.n_abs (by decide +kernel) (ja_cons (jv 0) ja_nil)) (ja_cons (j_callB c_abs rfl E.n_abs (by decide +kernel) (ja_cons (jv 1) ja_nil)) ja_nil))) (js_cons (js_while (fuel := (fuI 1)) (passes_of rfl) (jt_cmp o_gtI (jv 1) j_int) (js_one (js_par2 rfl nd (ja_cons (jv 1) (ja_cons (j_bin o_mod (jv 0) (jv 1)) ja_nil))))) (js_one (js_ret (jv 0)))))
theorem sc_Ratio___init__ : FnScope ["self", "top", "bottom", "value", "divisor"] ["self", "top", "bottom"] (defScope s_Ratio___init__) := ⟨rfl, rfl, rfl, by decide +kernel, rfl, by decide +kernel, by decide +kernel⟩
theorem ok_Ratio___init__ (E : Fs K mg CR) (h_is_integer : Has P w K mg base CR "is_integer" 1 ["value"] F_is_integer) (h_common_divisor : Has P w K mg base CR "common_divisor" 1 ["one", "other"] F_common_divisor) {f : Addr} {fd : FuncData} (F : FunD K "__init__" "Ratio.__init__" (defArgs s_Ratio___init__) (defBody s_Ratio___init__) (defScope s_Ratio___init__) [.int 1] [] f fd) : FJ P w K mg base CR 2 f fd ["self", "top", "bottom"] (runBody 5 (d_Ratio___init__ CR)) :=
  jf_fn F sc_Ratio___init__ fun cdv A outer s H E' Nn hr => by
    have nd := sc_Ratio___init__.nd
    have hu := hr.units
    exact (js_cons (js_for (passes_of rfl) rfl (ji_seq (j_tup (ja_cons (jv 1) (ja_cons (jv 2) ja_nil)))) (jg_name 3 nd) (js_one (js_if (jt_not (jt (j_callH h_is_integer (hr.mono (by decide)) (takes_of rfl rfl rfl (E₁ := _) rfl) (ja_cons (jv 3) ja_nil)))) (js_one js_never) js_nil))) (js_cons (js_if (jt_cmp (o_eqA hu) (jv 2) j_int) (js_one js_never) js_nil) (js_cons (js_set (i := 4) nd (j_callH h_common_divisor (hr.mono (by decide)) (takes_of rfl rfl rfl (E₁ := _) rfl) (ja_cons (jv 1) (ja_cons (jv 2) ja_nil)))) (js_cons (js_fput E.F_own_top (jv 0) (j_if (jt_cmp o_gtI (jv 2) j_int) (j_bin o_fdiv (jv 1) (jv 4)) (j_bin o_sub j_int (j_bin o_fdiv (jv 1) (jv 4))))) (js_one (js_fput E.F_own_bottom (jv 0) (j_bin o_fdiv (j_callB c_abs rfl E.n_abs (by decide +kernel) (ja_cons (jv 2) ja_nil)) (jv 4))))))))
theorem sc_w_given : FnScope ["_law_some", "_law_top", "_law_bottom"] ["_law_some"] (defScope s_w_given) := ⟨rfl, rfl, rfl, by decide +kernel, rfl, by decide +kernel, by decide +kernel⟩
theorem ok_w_given (E : Fs K mg CR) (h_Ratio : HasR P w K mg base CR 2 okR) {f : Addr} {fd : FuncData} (F : FunD K "_law_given" "_law_given" (defArgs s_w_given) (defBody s_w_given) (defScope s_w_given) [] [] f fd) : FJ P w K mg base CR 4 f fd ["_law_some"] (runBody 3 d_w_given) :=
  jf_fn F sc_w_given fun cdv A outer s H E' Nn hr => by
    have nd := sc_w_given.nd
    have hu := hr.units
    exact (js_one (js_ret (j_ofF (jf_comp rfl nd (ji_seq (jv 0)) (own := [("_law_top", 1), ("_law_bottom", 2)]) (blkOk_by (by kernel_rfl)) (fun _ _ _ _ _ _ => (jg_tup rfl (jgs_cons (jg_name 1 nd) (jgs_cons (jg_name 2 nd) jgs_nil)))) (fun _ _ _ _ _ _ => jts_nil) (fun _ _ _ _ _ _ => (j_if (jt_cmp o_gtI (jv 2) j_int) (j_callR h_Ratio (hr.mono (by decide)) (ja_cons (jv 1) (ja_cons (jv 2) ja_nil))) (jv 1)))))))
theorem sc_w_paired : FnScope ["_law_dots_here", "_law_near", "_law_far"] ["_law_dots_here"] (defScope s_w_paired) := ⟨rfl, rfl, rfl, by decide +kernel, rfl, by decide +kernel, by decide +kernel⟩
theorem ok_w_paired (E : Fs K mg CR) (h_w_given : Has P w K mg base CR "_law_given" 4 ["_law_some"] F_w_given) {f : Addr} {fd : FuncData} (F : FunD K "_law_paired" "_law_paired" (defArgs s_w_paired) (defBody s_w_paired) (defScope s_w_paired) [] [] f fd) : FJ P w K mg base CR 5 f fd ["_law_dots_here"] (runBody 3 d_w_paired) :=
  jf_fn F sc_w_paired fun cdv A outer s H E' Nn hr => by
    have nd := sc_w_paired.nd
    have hu := hr.units
    exact (js_one (js_ret (j_ofF (jf_comp rfl nd (ji_seq (jv 0)) (own := [("_law_near", 1), ("_law_far", 2)]) (blkOk_by (by kernel_rfl)) (fun _ _ _ _ _ _ => (jg_tup rfl (jgs_cons (jg_name 1 nd) (jgs_cons (jg_name 2 nd) jgs_nil)))) (fun _ _ _ _ _ _ => jts_nil) (fun _ _ _ _ _ _ => (j_callTy c_tuple rfl E.n_tuple (by decide +kernel) (ja_cons (j_callH h_w_given (hr.mono (by decide)) takes0 (ja_cons (j_lst (ja_cons (jv 1) (ja_cons (jv 2) ja_nil))) ja_nil)) ja_nil)))))))
theorem sc_w_minus : FnScope ["_law_one", "_law_other"] ["_law_one", "_law_other"] (defScope s_w_minus) := ⟨rfl, rfl, rfl, by decide +kernel, rfl, by decide +kernel, by decide +kernel⟩
theorem ok_w_minus (E : Fs K mg CR) (h_w_low : Has P w K mg base CR "_law_low" 1 ["_law_top", "_law_bottom"] F_w_low) {f : Addr} {fd : FuncData} (F : FunD K "_law_minus" "_law_minus" (defArgs s_w_minus) (defBody s_w_minus) (defScope s_w_minus) [] [] f fd) : FJ P w K mg base CR 2 f fd ["_law_one", "_law_other"] (runBody 2 d_w_minus) :=
  jf_fn F sc_w_minus fun cdv A outer s H E' Nn hr => by
    have nd := sc_w_minus.nd
    have hu := hr.units
    exact (js_one (js_ret (j_callH h_w_low (hr.mono (by decide)) (takes_of rfl rfl rfl (E₁ := _) rfl) (ja_cons (j_bin o_sub (j_bin o_mul (j_ix (jv 0) j_int) (j_ix (jv 1) j_int)) (j_bin o_mul (j_ix (jv 1) j_int) (j_ix (jv 0) j_int))) (ja_cons (j_bin o_mul (j_ix (jv 0) j_int) (j_ix (jv 1) j_int)) ja_nil)))))
theorem sc_w_through : FnScope ["_law_one", "_law_other"] ["_law_one", "_law_other"] (defScope s_w_through) := ⟨rfl, rfl, rfl, by decide +kernel, rfl, by decide +kernel, by decide +kernel⟩
theorem ok_w_through (E : Fs K mg CR) (h_w_low : Has P w K mg base CR "_law_low" 1 ["_law_top", "_law_bottom"] F_w_low) {f : Addr} {fd : FuncData} (F : FunD K "_law_through" "_law_through" (defArgs s_w_through) (defBody s_w_through) (defScope s_w_through) [] [] f fd) : FJ P w K mg base CR 2 f fd ["_law_one", "_law_other"] (runBody 2 d_w_through) :=
  jf_fn F sc_w_through fun cdv A outer s H E' Nn hr => by
    have nd := sc_w_through.nd
    have hu := hr.units
    exact (js_one (js_ret (j_callH h_w_low (hr.mono (by decide)) (takes_of rfl rfl rfl (E₁ := _) rfl) (ja_cons (j_bin o_mul (j_ix (jv 0) j_int) (j_ix (jv 1) j_int)) (ja_cons (j_bin o_mul (j_ix (jv 0) j_int) (j_ix (jv 1) j_int)) ja_nil)))))
theorem sc_w_below : FnScope ["_law_one", "_law_other"] ["_law_one", "_law_other"] (defScope s_w_below) := ⟨rfl, rfl, rfl, by decide +kernel, rfl, by decide +kernel, by decide +kernel⟩
theorem ok_w_below (E : Fs K mg CR)  {f : Addr} {fd : FuncData} (F : FunD K "_law_below" "_law_below" (defArgs s_w_below) (defBody s_w_below) (defScope s_w_below) [] [] f fd) : FJ P w K mg base CR 1 f fd ["_law_one", "_law_other"] (runBody 2 d_w_below) :=
  jf_fn F sc_w_below fun cdv A outer s H E' Nn hr => by
    have nd := sc_w_below.nd
    have hu := hr.units
    exact (js_one (js_ret (j_cmp o_ltI (j_bin o_mul (j_ix (jv 0) j_int) (j_ix (jv 1) j_int)) (j_bin o_mul (j_ix (jv 1) j_int) (j_ix (jv 0) j_int)))))
theorem sc_w_sorted : FnScope ["_law_some", "_law_found", "_law_one", "_law_at", "_law_other"] ["_law_some"] (defScope s_w_sorted) := ⟨rfl, rfl, rfl, by decide +kernel, rfl, by decide +kernel, by decide +kernel⟩
theorem ok_w_sorted (E : Fs K mg CR) (h_w_below : Has P w K mg base CR "_law_below" 1 ["_law_one", "_law_other"] F_w_below) {f : Addr} {fd : FuncData} (F : FunD K "_law_sorted" "_law_sorted" (defArgs s_w_sorted) (defBody s_w_sorted) (defScope s_w_sorted) [] [] f fd) : FJ P w K mg base CR 2 f fd ["_law_some"] (runBody 5 d_w_sorted) :=
  jf_fn F sc_w_sorted fun cdv A outer s H E' Nn hr => by
    have nd := sc_w_sorted.nd
    have hu := hr.units
    exact (js_cons (js_set (i := 1) nd (j_lst ja_nil)) (js_cons (js_for (passes_of rfl) rfl (ji_seq (jv 0)) (jg_name 2 nd) (js_cons (js_set (i := 3) nd (j_callB c_len rfl E.n_len (by decide +kernel) (ja_cons (j_ofF (jf_comp rfl nd (ji_seq (jv 1)) (own := [("_law_other", 4)]) (blkOk_by (by kernel_rfl)) (fun _ _ _ _ _ _ => (jg_name 4 nd)) (fun _ _ _ _ _ _ => (jts_one (jt_not (jt (j_callH h_w_below (hr.mono (by decide)) takes0 (ja_cons (jv 2) (ja_cons (jv 4) ja_nil))))))) (fun _ _ _ _ _ _ => (jv 4)))) ja_nil))) (js_one (js_set (i := 1) nd (j_bin o_add (j_bin o_add (o_slice (jv 1) jo_none (jo_some (jv 3))) (j_lst (ja_cons (jv 2) ja_nil))) (o_slice (jv 1) (jo_some (jv 3)) jo_none)))))) (js_one (js_ret (jv 1)))))
theorem sc_w_plus : FnScope ["_law_one", "_law_other"] ["_law_one", "_law_other"] (defScope s_w_plus) := ⟨rfl, rfl, rfl, by decide +kernel, rfl, by decide +kernel, by decide +kernel⟩
theorem ok_w_plus (E : Fs K mg CR) (h_w_low : Has P w K mg base CR "_law_low" 1 ["_law_top", "_law_bottom"] F_w_low) {f : Addr} {fd : FuncData} (F : FunD K "_law_plus" "_law_plus" (defArgs s_w_plus) (defBody s_w_plus) (defScope s_w_plus) [] [] f fd) : FJ P w K mg base CR 2 f fd ["_law_one", "_law_other"] (runBody 2 d_w_plus) :=
  jf_fn F sc_w_plus fun cdv A outer s H E' Nn hr => by
    have nd := sc_w_plus.nd
    have hu := hr.units
    exact (js_one (js_ret (j_callH h_w_low (hr.mono (by decide)) (takes_of rfl rfl rfl (E₁ := _) rfl) (ja_cons (j_bin o_add (j_bin o_mul (j_ix (jv 0) j_int) (j_ix (jv 1) j_int)) (j_bin o_mul (j_ix (jv 1) j_int) (j_ix (jv 0) j_int))) (ja_cons (j_bin o_mul (j_ix (jv 0) j_int) (j_ix (jv 1) j_int)) ja_nil)))))
theorem sc_w_times : FnScope ["_law_one", "_law_other"] ["_law_one", "_law_other"] (defScope s_w_times) := ⟨rfl, rfl, rfl, by decide +kernel, rfl, by decide +kernel, by decide +kernel⟩
theorem ok_w_times (E : Fs K mg CR) (h_w_low : Has P w K mg base CR "_law_low" 1 ["_law_top", "_law_bottom"] F_w_low) {f : Addr} {fd : FuncData} (F : FunD K "_law_times" "_law_times" (defArgs s_w_times) (defBody s_w_times) (defScope s_w_times) [] [] f fd) : FJ P w K mg base CR 2 f fd ["_law_one", "_law_other"] (runBody 2 d_w_times) :=
  jf_fn F sc_w_times fun cdv A outer s H E' Nn hr => by
    have nd := sc_w_times.nd
    have hu := hr.units
    exact (js_one (js_ret (j_callH h_w_low (hr.mono (by decide)) (takes_of rfl rfl rfl (E₁ := _) rfl) (ja_cons (j_bin o_mul (j_ix (jv 0) j_int) (j_ix (jv 1) j_int)) (ja_cons (j_bin o_mul (j_ix (jv 0) j_int) (j_ix (jv 1) j_int)) ja_nil)))))
theorem sc_w_middle : FnScope ["_law_one", "_law_two"] ["_law_one", "_law_two"] (defScope s_w_middle) := ⟨rfl, rfl, rfl, by decide +kernel, rfl, by decide +kernel, by decide +kernel⟩
theorem ok_w_middle (E : Fs K mg CR) (h_w_plus : Has P w K mg base CR "_law_plus" 2 ["_law_one", "_law_other"] F_w_plus) (h_w_times : Has P w K mg base CR "_law_times" 2 ["_law_one", "_law_other"] F_w_times) {f : Addr} {fd : FuncData} (F : FunD K "_law_middle" "_law_middle" (defArgs s_w_middle) (defBody s_w_middle) (defScope s_w_middle) [] [] f fd) : FJ P w K mg base CR 3 f fd ["_law_one", "_law_two"] (runBody 2 d_w_middle) :=
  jf_fn F sc_w_middle fun cdv A outer s H E' Nn hr => by
    have nd := sc_w_middle.nd
    have hu := hr.units
    exact (js_one (js_ret (j_callH h_w_times (hr.mono (by decide)) (takes_of rfl rfl rfl (E₁ := _) rfl) (ja_cons (j_tup (ja_cons j_int (ja_cons j_int ja_nil))) (ja_cons (j_callH h_w_plus (hr.mono (by decide)) (takes_of rfl rfl rfl (E₁ := _) rfl) (ja_cons (jv 0) (ja_cons (jv 1) ja_nil))) ja_nil)))))
theorem sc_w_half : FnScope ["_law_row"] ["_law_row"] (defScope s_w_half) := ⟨rfl, rfl, rfl, by decide +kernel, rfl, by decide +kernel, by decide +kernel⟩
theorem ok_w_half (E : Fs K mg CR) (h_w_sorted : Has P w K mg base CR "_law_sorted" 2 ["_law_some"] F_w_sorted) (h_w_middle : Has P w K mg base CR "_law_middle" 3 ["_law_one", "_law_two"] F_w_middle) {f : Addr} {fd : FuncData} (F : FunD K "_law_half" "_law_half" (defArgs s_w_half) (defBody s_w_half) (defScope s_w_half) [] [] f fd) : FJ P w K mg base CR 4 f fd ["_law_row"] (runBody 1 d_w_half) :=
  jf_fn F sc_w_half fun cdv A outer s H E' Nn hr => by
    have nd := sc_w_half.nd
    have hu := hr.units
    exact (js_cons (js_set (i := 0) nd (j_callH h_w_sorted (hr.mono (by decide)) (takes_of rfl rfl rfl (E₁ := _) rfl) (ja_cons (jv 0) ja_nil))) (js_one (js_ret (j_callH h_w_middle (hr.mono (by decide)) (takes_of rfl rfl rfl (E₁ := _) rfl) (ja_cons (j_ix (jv 0) (j_bin o_fdiv (j_bin o_sub (j_callB c_len rfl E.n_len (by decide +kernel) (ja_cons (jv 0) ja_nil)) j_int) j_int)) (ja_cons (j_ix (jv 0) (j_bin o_fdiv (j_callB c_len rfl E.n_len (by decide +kernel) (ja_cons (jv 0) ja_nil)) j_int)) ja_nil))))))
theorem sc_w_due : FnScope ["_law_dots_here", "_law_some", "_law_at", "_law_by", "_law_near", "_law_far", "_law_rise"] ["_law_dots_here"] (defScope s_w_due) := ⟨rfl, rfl, rfl, by decide +kernel, rfl, by decide +kernel, by decide +kernel⟩
theorem ok_w_due (E : Fs K mg CR) (h_w_minus : Has P w K mg base CR "_law_minus" 2 ["_law_one", "_law_other"] F_w_minus) (h_w_through : Has P w K mg base CR "_law_through" 2 ["_law_one", "_law_other"] F_w_through) (h_w_half : Has P w K mg base CR "_law_half" 4 ["_law_row"] F_w_half) (h_w_times : Has P w K mg base CR "_law_times" 2 ["_law_one", "_law_other"] F_w_times) {f : Addr} {fd : FuncData} (F : FunD K "_law_due" "_law_due" (defArgs s_w_due) (defBody s_w_due) (defScope s_w_due) [] [] f fd) : FJ P w K mg base CR 5 f fd ["_law_dots_here"] (runBody 7 d_w_due_k30) :=
  jf_fn F sc_w_due fun cdv A outer s H E' Nn hr => by
    have nd := sc_w_due.nd
    have hu := hr.units
    exact (js_cons (js_own (i := 1) nd (jf_lst ja_nil)) (js_cons (js_for (passes_of rfl) rfl (ji_range1 (ja_cons (j_callB c_len rfl E.n_len (by decide +kernel) (ja_cons (jv 0) ja_nil)) ja_nil) E.n_range) (jg_name 2 nd) (js_one (js_for (passes_of rfl) rfl (ji_seq (o_slice (jv 0) jo_none (jo_some (jv 2)))) (jg_tup rfl (jgs_cons (jg_name 4 nd) (jgs_cons (jg_name 5 nd) jgs_nil))) (js_one (js_if (jt_cmp (o_neA hu) (jv 4) (j_ix (j_ix (jv 0) (jv 2)) j_int)) (js_cons (js_set (i := 6) nd (j_callH h_w_minus (hr.mono (by decide)) (takes_of rfl rfl rfl (E₁ := _) rfl) (ja_cons (j_ix (j_ix (jv 0) (jv 2)) j_int) (ja_cons (jv 5) ja_nil)))) (js_one (js_expr (j_app (i := 1) (j_callH h_w_through (hr.mono (by decide)) (takes_of rfl rfl rfl (E₁ := _) rfl) (ja_cons (jv 6) (ja_cons (j_callH h_w_minus (hr.mono (by decide)) (takes_of rfl rfl rfl (E₁ := _) rfl) (ja_cons (j_ix (j_ix (jv 0) (jv 2)) j_int) (ja_cons (jv 4) ja_nil))) ja_nil))))))) js_nil))))) (js_cons (js_if (jt_bor (is := [1]) (jt_cmp (o_eqA hu) (jv 1) (j_lst ja_nil))) (js_one (js_ret j_non)) js_nil) (js_cons (js_set (i := 3) nd (j_bor (is := [1]) (j_callH h_w_half (hr.mono (by decide)) (takes_of rfl rfl rfl (E₁ := _) rfl) (ja_cons (jv 1) ja_nil)))) (js_one (js_ret (j_tup (ja_cons (jv 3) (ja_cons (j_callH h_w_half (hr.mono (by decide)) (takes_of rfl rfl rfl (E₁ := _) rfl) (ja_cons (j_ofF (jf_comp rfl nd (ji_seq (jv 0)) (own := [("_law_near", 4), ("_law_far", 5)]) (blkOk_by (by kernel_rfl)) (fun _ _ _ _ _ _ => (jg_tup rfl (jgs_cons (jg_name 4 nd) (jgs_cons (jg_name 5 nd) jgs_nil)))) (fun _ _ _ _ _ _ => jts_nil) (fun _ _ _ _ _ _ => (j_callH h_w_minus (hr.mono (by decide)) takes0 (ja_cons (jv 5) (ja_cons (j_callH h_w_times (hr.mono (by decide)) takes0 (ja_cons (jv 3) (ja_cons (jv 4) ja_nil))) ja_nil)))))) ja_nil)) ja_nil)))))))))
theorem sc_Ratio_bottom : FnScope ["self"] ["self"] (defScope s_Ratio_bottom) := ⟨rfl, rfl, rfl, by decide +kernel, rfl, by decide +kernel, by decide +kernel⟩
theorem ok_Ratio_bottom (E : Fs K mg CR)  {f : Addr} {fd : FuncData} (F : FunD K "bottom" "Ratio.bottom" (defArgs s_Ratio_bottom) (defBody s_Ratio_bottom) (defScope s_Ratio_bottom) [] [] f fd) : FJ P w K mg base CR 1 f fd ["self"] (runBody 1 d_Ratio_bottom) :=
  jf_fn F sc_Ratio_bottom fun cdv A outer s H E' Nn hr => by
    have nd := sc_Ratio_bottom.nd
    have hu := hr.units
    exact (js_one (js_ret (j_bot E.T (jv 0))))
theorem sc_Ratio_top : FnScope ["self"] ["self"] (defScope s_Ratio_top) := ⟨rfl, rfl, rfl, by decide +kernel, rfl, by decide +kernel, by decide +kernel⟩
theorem ok_Ratio_top (E : Fs K mg CR)  {f : Addr} {fd : FuncData} (F : FunD K "top" "Ratio.top" (defArgs s_Ratio_top) (defBody s_Ratio_top) (defScope s_Ratio_top) [] [] f fd) : FJ P w K mg base CR 1 f fd ["self"] (runBody 1 d_Ratio_top) :=
  jf_fn F sc_Ratio_top fun cdv A outer s H E' Nn hr => by
    have nd := sc_Ratio_top.nd
    have hu := hr.units
    exact (js_one (js_ret (j_top E.T (jv 0))))
theorem sc_w_taken : FnScope ["_law_value"] ["_law_value"] (defScope s_w_taken) := ⟨rfl, rfl, rfl, by decide +kernel, rfl, by decide +kernel, by decide +kernel⟩
theorem ok_w_taken (E : Fs K mg CR) (h_bottom : HasP P w K mg base CR "bottom" 1 F_bottom) (h_top : HasP P w K mg base CR "top" 1 F_top) {f : Addr} {fd : FuncData} (F : FunD K "_law_taken" "_law_taken" (defArgs s_w_taken) (defBody s_w_taken) (defScope s_w_taken) [] [] f fd) : FJ P w K mg base CR 3 f fd ["_law_value"] (runBody 1 d_w_taken) :=
  jf_fn F sc_w_taken fun cdv A outer s H E' Nn hr => by
    have nd := sc_w_taken.nd
    have hu := hr.units
    exact (js_one (js_ret (j_if (jt (j_isR E.I E.mR E.n_isinstance (jv 0))) (j_tup (ja_cons (j_ptop h_top E.T (hr.mono (by decide)) (jv 0)) (ja_cons (j_pbot h_bottom E.T (hr.mono (by decide)) (jv 0)) ja_nil))) j_non)))
theorem sc_w_kept : FnScope ["_law_given_here", "_law_one"] ["_law_given_here"] (defScope s_w_kept) := ⟨rfl, rfl, rfl, by decide +kernel, rfl, by decide +kernel, by decide +kernel⟩
theorem ok_w_kept (E : Fs K mg CR) (h_w_taken : Has P w K mg base CR "_law_taken" 3 ["_law_value"] F_w_taken) {f : Addr} {fd : FuncData} (F : FunD K "_law_kept" "_law_kept" (defArgs s_w_kept) (defBody s_w_kept) (defScope s_w_kept) [] [] f fd) : FJ P w K mg base CR 4 f fd ["_law_given_here"] (runBody 2 d_w_kept) :=
  jf_fn F sc_w_kept fun cdv A outer s H E' Nn hr => by
    have nd := sc_w_kept.nd
    have hu := hr.units
    exact (js_one (js_ret (j_ofF (jf_comp rfl nd (ji_seq (jv 0)) (own := [("_law_one", 1)]) (blkOk_by (by kernel_rfl)) (fun _ _ _ _ _ _ => (jg_name 1 nd)) (fun _ _ _ _ _ _ => jts_nil) (fun _ _ _ _ _ _ => (j_if (jt (j_isT E.I.kk E.I.int E.n_int (by decide +kernel) E.n_isinstance (jv 1))) (jv 1) (j_callH h_w_taken (hr.mono (by decide)) takes0 (ja_cons (jv 1) ja_nil))))))))
theorem sc_is_row : FnScope ["value"] ["value"] (defScope s_is_row) := ⟨rfl, rfl, rfl, by decide +kernel, rfl, by decide +kernel, by decide +kernel⟩
theorem ok_is_row (E : Fs K mg CR)  {f : Addr} {fd : FuncData} (F : FunD K "is_row" "is_row" (defArgs s_is_row) (defBody s_is_row) (defScope s_is_row) [] [] f fd) : FJ P w K mg base CR 1 f fd ["value"] (runBody 1 d_is_row) :=
  jf_fn F sc_is_row fun cdv A outer s H E' Nn hr => by
    have nd := sc_is_row.nd
    have hu := hr.units
    exact (js_one (js_ret (j_and (j_isi2 E.I.kk E.I.tup E.I.lst (.ty "tuple") (.ty "list") (jv 0) (pe_bltn (v := .ty "tuple") rfl E.n_tuple (by decide +kernel) rfl) (pe_bltn (v := .ty "list") rfl E.n_list (by decide +kernel) rfl) rfl E.n_isinstance) (j_one (j_cmp o_leI (j_callB c_len rfl E.n_len (by decide +kernel) (ja_cons (jv 0) ja_nil)) (let ⟨t, h⟩ := E.c_MOST_ITEMS; j_gint h ⟨t, rfl⟩))))))
theorem sc_is_number : FnScope ["value"] ["value"] (defScope s_is_number) := ⟨rfl, rfl, rfl, by decide +kernel, rfl, by decide +kernel, by decide +kernel⟩
theorem ok_is_number (E : Fs K mg CR) (h_is_integer : Has P w K mg base CR "is_integer" 1 ["value"] F_is_integer) {f : Addr} {fd : FuncData} (F : FunD K "is_number" "is_number" (defArgs s_is_number) (defBody s_is_number) (defScope s_is_number) [] [] f fd) : FJ P w K mg base CR 2 f fd ["value"] (runBody 1 d_is_number) :=
  jf_fn F sc_is_number fun cdv A outer s H E' Nn hr => by
    have nd := sc_is_number.nd
    have hu := hr.units
    exact (js_one (js_ret (j_or (j_callH h_is_integer (hr.mono (by decide)) (takes_of rfl rfl rfl (E₁ := _) rfl) (ja_cons (jv 0) ja_nil)) (j_one (j_isR E.I E.mR E.n_isinstance (jv 0))))))
theorem sc_is_pair : FnScope ["value"] ["value"] (defScope s_is_pair) := ⟨rfl, rfl, rfl, by decide +kernel, rfl, by decide +kernel, by decide +kernel⟩
theorem ok_is_pair (E : Fs K mg CR) (h_is_number_ratios : Has P w K mg base CR "is_number_ratios" 2 ["value"] F_is_number) {f : Addr} {fd : FuncData} (F : FunD K "is_pair" "is_pair" (defArgs s_is_pair) (defBody s_is_pair) (defScope s_is_pair) [] [] f fd) : FJ P w K mg base CR 3 f fd ["value"] (runBody 1 d_is_pair) :=
  jf_fn F sc_is_pair fun cdv A outer s H E' Nn hr => by
    have nd := sc_is_pair.nd
    have hu := hr.units
    exact (js_one (js_ret (j_and (j_isT E.I.kk E.I.tup E.n_tuple (by decide +kernel) E.n_isinstance (jv 0)) (j_and (j_cmp (o_eqA hu) (j_callB c_len rfl E.n_len (by decide +kernel) (ja_cons (jv 0) ja_nil)) j_int) (j_and (j_callH h_is_number_ratios (hr.mono (by decide)) (takes_of rfl rfl rfl (E₁ := _) rfl) (ja_cons (j_ix (jv 0) j_int) ja_nil)) (j_one (j_callH h_is_number_ratios (hr.mono (by decide)) (takes_of rfl rfl rfl (E₁ := _) rfl) (ja_cons (j_ix (jv 0) j_int) ja_nil))))))))
theorem sc_ratio_of : FnScope ["value"] ["value"] (defScope s_ratio_of) := ⟨rfl, rfl, rfl, by decide +kernel, rfl, by decide +kernel, by decide +kernel⟩
theorem ok_ratio_of (E : Fs K mg CR) (h_Ratio : HasR P w K mg base CR 2 okR) {f : Addr} {fd : FuncData} (F : FunD K "ratio_of" "ratio_of" (defArgs s_ratio_of) (defBody s_ratio_of) (defScope s_ratio_of) [] [] f fd) : FJ P w K mg base CR 4 f fd ["value"] (runBody 1 d_ratio_of) :=
  jf_fn F sc_ratio_of fun cdv A outer s H E' Nn hr => by
    have nd := sc_ratio_of.nd
    have hu := hr.units
    exact (js_one (js_ret (j_if (jt (j_isR E.I E.mR E.n_isinstance (jv 0))) (jv 0) (j_callR h_Ratio (hr.mono (by decide)) (ja_cons (jv 0) ja_nil)))))
theorem sc_need_pairs : FnScope ["pairs", "index", "pair", "x", "y"] ["pairs"] (defScope s_need_pairs) := ⟨rfl, rfl, rfl, by decide +kernel, rfl, by decide +kernel, by decide +kernel⟩
theorem ok_need_pairs (E : Fs K mg CR) (h_exc_BadPairs : HasE P w K mg base "BadPairs" "index" .ve) (h_is_row : Has P w K mg base CR "is_row" 1 ["value"] F_is_row) (h_is_pair : Has P w K mg base CR "is_pair" 3 ["value"] F_is_pair) (h_ratio_of : Has P w K mg base CR "ratio_of" 4 ["value"] F_ratio_of) {f : Addr} {fd : FuncData} (F : FunD K "need_pairs" "need_pairs" (defArgs s_need_pairs) (defBody s_need_pairs) (defScope s_need_pairs) [] [] f fd) : FJ P w K mg base CR 5 f fd ["pairs"] (runBody 5 d_need_pairs) :=
  jf_fn F sc_need_pairs fun cdv A outer s H E' Nn hr => by
    have nd := sc_need_pairs.nd
    have hu := hr.units
    exact (js_cons (js_if (jt_not (jt (j_callH h_is_row (hr.mono (by decide)) (takes_of rfl rfl rfl (E₁ := _) rfl) (ja_cons (jv 0) ja_nil)))) (js_one (js_raise (k := 0) rfl h_exc_BadPairs (hr.mono (by decide)) (takes_of rfl rfl rfl (E₁ := _) rfl) j_non)) js_nil) (js_cons (js_for (passes_of rfl) rfl (ji_enumA (ja_cons (jv 0) ja_nil) E.n_enumerate) (jg_tup rfl (jgs_cons (jg_name 1 nd) (jgs_cons (jg_name 2 nd) jgs_nil))) (js_one (js_if (jt_not (jt (j_callH h_is_pair (hr.mono (by decide)) (takes_of rfl rfl rfl (E₁ := _) rfl) (ja_cons (jv 2) ja_nil)))) (js_one (js_raise (k := 0) rfl h_exc_BadPairs (hr.mono (by decide)) (takes_of rfl rfl rfl (E₁ := _) rfl) (jv 1))) js_nil))) (js_one (js_ret (j_ofF (jf_comp rfl nd (ji_seq (jv 0)) (own := [("x", 3), ("y", 4)]) (blkOk_by (by kernel_rfl)) (fun _ _ _ _ _ _ => (jg_tup rfl (jgs_cons (jg_name 3 nd) (jgs_cons (jg_name 4 nd) jgs_nil)))) (fun _ _ _ _ _ _ => jts_nil) (fun _ _ _ _ _ _ => (j_tup (ja_cons (j_callH h_ratio_of (hr.mono (by decide)) takes0 (ja_cons (jv 3) ja_nil)) (ja_cons (j_callH h_ratio_of (hr.mono (by decide)) takes0 (ja_cons (jv 4) ja_nil)) ja_nil))))))))))
theorem sc_need_items : FnScope ["values"] ["values"] (defScope s_need_items) := ⟨rfl, rfl, rfl, by decide +kernel, rfl, by decide +kernel, by decide +kernel⟩
theorem ok_need_items (E : Fs K mg CR) (h_exc_Empty : HasE0 K mg "Empty" .le) {f : Addr} {fd : FuncData} (F : FunD K "need_items" "need_items" (defArgs s_need_items) (defBody s_need_items) (defScope s_need_items) [] [] f fd) : FJ P w K mg base CR 1 f fd ["values"] (runBody 1 d_need_items) :=
  jf_fn F sc_need_items fun cdv A outer s H E' Nn hr => by
    have nd := sc_need_items.nd
    have hu := hr.units
    exact (js_one (js_if (jt_cmp (o_eqA hu) (j_callB c_len rfl E.n_len (by decide +kernel) (ja_cons (jv 0) ja_nil)) j_int) (js_one (js_raise0 rfl h_exc_Empty (takes_of rfl rfl rfl (E₁ := _) rfl))) js_nil))
theorem sc_Ratio___eq__ : FnScope ["self", "other", "far"] ["self", "other"] (defScope s_Ratio___eq__) := ⟨rfl, rfl, rfl, by decide +kernel, rfl, by decide +kernel, by decide +kernel⟩
theorem ok_Ratio___eq__ (E : Fs K mg CR) (h_is_number_ratios : Has P w K mg base CR "is_number_ratios" 2 ["value"] F_is_number) (h_ratio_of : Has P w K mg base CR "ratio_of" 4 ["value"] F_ratio_of) {f : Addr} {fd : FuncData} (F : FunD K "__eq__" "Ratio.__eq__" (defArgs s_Ratio___eq__) (defBody s_Ratio___eq__) (defScope s_Ratio___eq__) [] [] f fd) : FJ P w K mg base CR 5 f fd ["self", "other"] (runBody 3 d_Ratio___eq__) :=
  jf_fn F sc_Ratio___eq__ fun cdv A outer s H E' Nn hr => by
    have nd := sc_Ratio___eq__.nd
    have hu := hr.units
    exact (js_cons (js_if (jt_not (jt (j_callH h_is_number_ratios (hr.mono (by decide)) (takes_of rfl rfl rfl (E₁ := _) rfl) (ja_cons (jv 1) ja_nil)))) (js_one (js_ret j_bl)) js_nil) (js_cons (js_set (i := 2) nd (j_callH h_ratio_of (hr.mono (by decide)) (takes_of rfl rfl rfl (E₁ := _) rfl) (ja_cons (jv 1) ja_nil))) (js_one (js_ret (j_and (j_cmp (o_eqA hu) (j_top E.T (jv 0)) (j_top E.T (jv 2))) (j_one (j_cmp (o_eqA hu) (j_bot E.T (jv 0)) (j_bot E.T (jv 2)))))))))
theorem sc_Ratio___sub__ : FnScope ["self", "other", "far"] ["self", "other"] (defScope s_Ratio___sub__) := ⟨rfl, rfl, rfl, by decide +kernel, rfl, by decide +kernel, by decide +kernel⟩
theorem ok_Ratio___sub__ (E : Fs K mg CR) (h_ratio_of : Has P w K mg base CR "ratio_of" 4 ["value"] F_ratio_of) (h_Ratio : HasR P w K mg base CR 2 okR) {f : Addr} {fd : FuncData} (F : FunD K "__sub__" "Ratio.__sub__" (defArgs s_Ratio___sub__) (defBody s_Ratio___sub__) (defScope s_Ratio___sub__) [] [] f fd) : FJ P w K mg base CR 5 f fd ["self", "other"] (runBody 3 d_Ratio___sub__) :=
  jf_fn F sc_Ratio___sub__ fun cdv A outer s H E' Nn hr => by
    have nd := sc_Ratio___sub__.nd
    have hu := hr.units
    exact (js_cons (js_set (i := 2) nd (j_callH h_ratio_of (hr.mono (by decide)) (takes_of rfl rfl rfl (E₁ := _) rfl) (ja_cons (jv 1) ja_nil))) (js_one (js_ret (j_callR h_Ratio (hr.mono (by decide)) (ja_cons (j_bin o_sub (j_bin o_mul (j_top E.T (jv 0)) (j_bot E.T (jv 2))) (j_bin o_mul (j_top E.T (jv 2)) (j_bot E.T (jv 0)))) (ja_cons (j_bin o_mul (j_bot E.T (jv 0)) (j_bot E.T (jv 2))) ja_nil))))))
theorem sc_need_number : FnScope ["value"] ["value"] (defScope s_need_number) := ⟨rfl, rfl, rfl, by decide +kernel, rfl, by decide +kernel, by decide +kernel⟩
theorem ok_need_number (E : Fs K mg CR) (h_exc_BadNumber : HasE P w K mg base "BadNumber" "value" .ve) (h_is_number_ratios : Has P w K mg base CR "is_number_ratios" 2 ["value"] F_is_number) {f : Addr} {fd : FuncData} (F : FunD K "need_number" "need_number" (defArgs s_need_number) (defBody s_need_number) (defScope s_need_number) [] [] f fd) : FJ P w K mg base CR 3 f fd ["value"] (runBody 1 d_need_number) :=
  jf_fn F sc_need_number fun cdv A outer s H E' Nn hr => by
    have nd := sc_need_number.nd
    have hu := hr.units
    exact (js_one (js_if (jt_not (jt (j_callH h_is_number_ratios (hr.mono (by decide)) (takes_of rfl rfl rfl (E₁ := _) rfl) (ja_cons (jv 0) ja_nil)))) (js_one (js_raise (k := 0) rfl h_exc_BadNumber (hr.mono (by decide)) (takes_of rfl rfl rfl (E₁ := _) rfl) (jv 0))) js_nil))
theorem sc_Ratio_over : FnScope ["self", "other", "far"] ["self", "other"] (defScope s_Ratio_over) := ⟨rfl, rfl, rfl, by decide +kernel, rfl, by decide +kernel, by decide +kernel⟩
theorem ok_Ratio_over (E : Fs K mg CR) (h_need_number : Has P w K mg base CR "need_number" 3 ["value"] F_need_number) (h_ratio_of : Has P w K mg base CR "ratio_of" 4 ["value"] F_ratio_of) (h_Ratio : HasR P w K mg base CR 2 okR) {f : Addr} {fd : FuncData} (F : FunD K "over" "Ratio.over" (defArgs s_Ratio_over) (defBody s_Ratio_over) (defScope s_Ratio_over) [] [] f fd) : FJ P w K mg base CR 5 f fd ["self", "other"] (runBody 3 d_Ratio_over) :=
  jf_fn F sc_Ratio_over fun cdv A outer s H E' Nn hr => by
    have nd := sc_Ratio_over.nd
    have hu := hr.units
    exact (js_cons (js_expr (j_callH h_need_number (hr.mono (by decide)) (takes_of rfl rfl rfl (E₁ := _) rfl) (ja_cons (jv 1) ja_nil))) (js_cons (js_set (i := 2) nd (j_callH h_ratio_of (hr.mono (by decide)) (takes_of rfl rfl rfl (E₁ := _) rfl) (ja_cons (jv 1) ja_nil))) (js_one (js_ret (j_callR h_Ratio (hr.mono (by decide)) (ja_cons (j_bin o_mul (j_top E.T (jv 0)) (j_bot E.T (jv 2))) (ja_cons (j_bin o_mul (j_bot E.T (jv 0)) (j_top E.T (jv 2))) ja_nil)))))))
theorem sc_is_less : FnScope ["one", "other"] ["one", "other"] (defScope s_is_less) := ⟨rfl, rfl, rfl, by decide +kernel, rfl, by decide +kernel, by decide +kernel⟩
theorem ok_is_less (E : Fs K mg CR)  {f : Addr} {fd : FuncData} (F : FunD K "is_less" "is_less" (defArgs s_is_less) (defBody s_is_less) (defScope s_is_less) [] [] f fd) : FJ P w K mg base CR 1 f fd ["one", "other"] (runBody 2 d_is_less) :=
  jf_fn F sc_is_less fun cdv A outer s H E' Nn hr => by
    have nd := sc_is_less.nd
    have hu := hr.units
    exact (js_one (js_ret (j_cmp o_ltI (j_bin o_mul (j_top E.T (jv 0)) (j_bot E.T (jv 1))) (j_bin o_mul (j_top E.T (jv 1)) (j_bot E.T (jv 0))))))
theorem sc_joined : FnScope ["near", "far", "value", "found", "at"] ["near", "far"] (defScope s_joined) := ⟨rfl, rfl, rfl, by decide +kernel, rfl, by decide +kernel, by decide +kernel⟩
theorem ok_joined (E : Fs K mg CR) (h_is_less : Has P w K mg base CR "is_less" 1 ["one", "other"] F_is_less) {f : Addr} {fd : FuncData} (F : FunD K "joined" "joined" (defArgs s_joined) (defBody s_joined) (defScope s_joined) [] [] f fd) : FJ P w K mg base CR 2 f fd ["near", "far"] (runBody 5 d_joined) :=
  jf_fn F sc_joined fun cdv A outer s H E' Nn hr => by
    have nd := sc_joined.nd
    have hu := hr.units
    exact (js_cons (js_parX2 rfl nd (jx_own (jf_lst ja_nil) fun _ => (jx_val j_int jx_nil))) (js_cons (js_for (passes_of rfl) rfl (ji_seq (jv 0)) (jg_name 2 nd) (js_cons (js_while (fuel := (fuL 1)) (passes_of rfl) (jt_w (jw_and (jt_cmp o_ltI (jv 4) (j_callB c_len rfl E.n_len (by decide +kernel) (ja_cons (jv 1) ja_nil))) (jw_and1 (jt (j_callH h_is_less (hr.mono (by decide)) (takes_of rfl rfl rfl (E₁ := _) rfl) (ja_cons (j_ix (jv 1) (jv 4)) (ja_cons (jv 2) ja_nil))))))) (js_cons (js_expr (j_app (i := 3) (j_ix (jv 1) (jv 4)))) (js_one (js_set (i := 4) nd (j_bin o_add (jv 4) j_int))))) (js_one (js_expr (j_app (i := 3) (jv 2)))))) (js_one (js_frz (is := [3]) (js_ret (j_bin o_add (jv 3) (o_slice (jv 1) (jo_some (jv 4)) jo_none)))))))
theorem sc_arranged : FnScope ["values", "lists", "pairs", "value", "at"] ["values"] (defScope s_arranged) := ⟨rfl, rfl, rfl, by decide +kernel, rfl, by decide +kernel, by decide +kernel⟩
theorem ok_arranged (E : Fs K mg CR) (h_joined : Has P w K mg base CR "joined" 2 ["near", "far"] F_joined) {f : Addr} {fd : FuncData} (F : FunD K "arranged" "arranged" (defArgs s_arranged) (defBody s_arranged) (defScope s_arranged) [] [] f fd) : FJ P w K mg base CR 3 f fd ["values"] (runBody 5 d_arranged) :=
  jf_fn F sc_arranged fun cdv A outer s H E' Nn hr => by
    have nd := sc_arranged.nd
    have hu := hr.units
    exact (js_cons (js_set (i := 1) nd (j_ofF (jf_comp rfl nd (ji_seq (jv 0)) (own := [("value", 3)]) (blkOk_by (by kernel_rfl)) (fun _ _ _ _ _ _ => (jg_name 3 nd)) (fun _ _ _ _ _ _ => jts_nil) (fun _ _ _ _ _ _ => (j_lst (ja_cons (jv 3) ja_nil)))))) (js_cons (js_while (fuel := (fuL 1)) (passes_of rfl) (jt_cmp o_gtI (j_callB c_len rfl E.n_len (by decide +kernel) (ja_cons (jv 1) ja_nil)) j_int) (js_cons (js_setLc (i := 2) rfl nd (sw_true (by rfl) (by rfl) (by kernel_rfl) (by kernel_rfl)) (ji_range3 (ja_cons j_int (ja_cons (j_bin o_sub (j_callB c_len rfl E.n_len (by decide +kernel) (ja_cons (jv 1) ja_nil)) j_int) (ja_cons j_int ja_nil))) E.n_range) (own := [("at", 4)]) (blkOk_by (by kernel_rfl)) (fun _ _ _ _ _ _ => (jg_name 4 nd)) (fun _ _ _ _ _ _ => jts_nil) (fun _ _ _ _ _ _ => (j_callH h_joined (hr.mono (by decide)) takes0 (ja_cons (j_ix (jv 1) (jv 4)) (ja_cons (j_ix (jv 1) (j_bin o_add (jv 4) j_int)) ja_nil))))) (js_one (js_set (i := 1) nd (j_bin o_add (jv 2) (o_slice (jv 1) (jo_some (j_bin o_mul j_int (j_callB c_len rfl E.n_len (by decide +kernel) (ja_cons (jv 2) ja_nil)))) jo_none)))))) (js_one (js_ret (j_ix (jv 1) j_int)))))
theorem sc_common : FnScope ["values", "bottom", "value"] ["values"] (defScope s_common) := ⟨rfl, rfl, rfl, by decide +kernel, rfl, by decide +kernel, by decide +kernel⟩
theorem ok_common (E : Fs K mg CR) (h_common_divisor : Has P w K mg base CR "common_divisor" 1 ["one", "other"] F_common_divisor) {f : Addr} {fd : FuncData} (F : FunD K "common" "common" (defArgs s_common) (defBody s_common) (defScope s_common) [] [] f fd) : FJ P w K mg base CR 2 f fd ["values"] (runBody 3 d_common) :=
  jf_fn F sc_common fun cdv A outer s H E' Nn hr => by
    have nd := sc_common.nd
    have hu := hr.units
    exact (js_cons (js_set (i := 1) nd j_int) (js_cons (js_for (passes_of rfl) rfl (ji_seq (jv 0)) (jg_name 2 nd) (js_one (js_set (i := 1) nd (j_bin o_mul (j_bin o_fdiv (jv 1) (j_callH h_common_divisor (hr.mono (by decide)) (takes_of rfl rfl rfl (E₁ := _) rfl) (ja_cons (jv 1) (ja_cons (j_bot E.T (jv 2)) ja_nil)))) (j_bot E.T (jv 2)))))) (js_one (js_ret (j_tup (ja_cons (j_ofF (jf_comp rfl nd (ji_seq (jv 0)) (own := [("value", 2)]) (blkOk_by (by kernel_rfl)) (fun _ _ _ _ _ _ => (jg_name 2 nd)) (fun _ _ _ _ _ _ => jts_nil) (fun _ _ _ _ _ _ => (j_bin o_mul (j_top E.T (jv 2)) (j_bin o_fdiv (jv 1) (j_bot E.T (jv 2))))))) (ja_cons (jv 1) ja_nil)))))))
theorem sc_total : FnScope ["values", "integers", "bottom"] ["values"] (defScope s_total) := ⟨rfl, rfl, rfl, by decide +kernel, rfl, by decide +kernel, by decide +kernel⟩
theorem ok_total (E : Fs K mg CR) (h_common : Has P w K mg base CR "common" 2 ["values"] F_common) (h_Ratio : HasR P w K mg base CR 2 okR) {f : Addr} {fd : FuncData} (F : FunD K "total" "total" (defArgs s_total) (defBody s_total) (defScope s_total) [] [] f fd) : FJ P w K mg base CR 4 f fd ["values"] (runBody 3 d_total) :=
  jf_fn F sc_total fun cdv A outer s H E' Nn hr => by
    have nd := sc_total.nd
    have hu := hr.units
    exact (js_cons (js_asg (j_callH h_common (hr.mono (by decide)) (takes_of rfl rfl rfl (E₁ := _) rfl) (ja_cons (jv 0) ja_nil)) (jg_tup rfl (jgs_cons (jg_name 1 nd) (jgs_cons (jg_name 2 nd) jgs_nil)))) (js_one (js_ret (j_callR h_Ratio (hr.mono (by decide)) (ja_cons (j_callB (c_sumI rfl) rfl E.n_sum (by decide +kernel) (ja_cons (jv 1) ja_nil)) (ja_cons (jv 2) ja_nil))))))
theorem sc_mean_of : FnScope ["values"] ["values"] (defScope s_mean_of) := ⟨rfl, rfl, rfl, by decide +kernel, rfl, by decide +kernel, by decide +kernel⟩
theorem ok_mean_of (E : Fs K mg CR) (h_total : Has P w K mg base CR "total" 4 ["values"] F_total) (h_Ratio_over : HasM P w K mg base CR "over" 5 ["self", "other"] F_Ratio_over) {f : Addr} {fd : FuncData} (F : FunD K "mean_of" "mean_of" (defArgs s_mean_of) (defBody s_mean_of) (defScope s_mean_of) [] [] f fd) : FJ P w K mg base CR 6 f fd ["values"] (runBody 1 d_mean_of) :=
  jf_fn F sc_mean_of fun cdv A outer s H E' Nn hr => by
    have nd := sc_mean_of.nd
    have hu := hr.units
    exact (js_one (js_ret (j_mR h_Ratio_over E.T (hr.mono (by decide)) (takes_of rfl rfl rfl (E₁ := _) rfl) (j_callH h_total (hr.mono (by decide)) (takes_of rfl rfl rfl (E₁ := _) rfl) (ja_cons (jv 0) ja_nil)) (ja_cons (j_callB c_len rfl E.n_len (by decide +kernel) (ja_cons (jv 0) ja_nil)) ja_nil))))
theorem sc_median_of : FnScope ["values", "many"] ["values"] (defScope s_median_of) := ⟨rfl, rfl, rfl, by decide +kernel, rfl, by decide +kernel, by decide +kernel⟩
theorem ok_median_of (E : Fs K mg CR) (h_mean_of : Has P w K mg base CR "mean_of" 6 ["values"] F_mean_of) {f : Addr} {fd : FuncData} (F : FunD K "median_of" "median_of" (defArgs s_median_of) (defBody s_median_of) (defScope s_median_of) [] [] f fd) : FJ P w K mg base CR 7 f fd ["values"] (runBody 2 d_median_of) :=
  jf_fn F sc_median_of fun cdv A outer s H E' Nn hr => by
    have nd := sc_median_of.nd
    have hu := hr.units
    exact (js_cons (js_set (i := 1) nd (j_callB c_len rfl E.n_len (by decide +kernel) (ja_cons (jv 0) ja_nil))) (js_one (js_ret (j_callH h_mean_of (hr.mono (by decide)) (takes_of rfl rfl rfl (E₁ := _) rfl) (ja_cons (j_lst (ja_cons (j_ix (jv 0) (j_bin o_fdiv (j_bin o_sub (jv 1) j_int) j_int)) (ja_cons (j_ix (jv 0) (j_bin o_fdiv (jv 1) j_int)) ja_nil))) ja_nil)))))
theorem sc_Line___init__ : FnScope ["self", "slope", "height"] ["self", "slope", "height"] (defScope s_Line___init__) := ⟨rfl, rfl, rfl, by decide +kernel, rfl, by decide +kernel, by decide +kernel⟩
theorem ok_Line___init__ (E : Fs K mg CR) (h_need_number : Has P w K mg base CR "need_number" 3 ["value"] F_need_number) (h_ratio_of : Has P w K mg base CR "ratio_of" 4 ["value"] F_ratio_of) {f : Addr} {fd : FuncData} (F : FunD K "__init__" "Line.__init__" (defArgs s_Line___init__) (defBody s_Line___init__) (defScope s_Line___init__) [] [] f fd) : FJ P w K mg base CR 5 f fd ["self", "slope", "height"] (runBody 3 d_Line___init__) :=
  jf_fn F sc_Line___init__ fun cdv A outer s H E' Nn hr => by
    have nd := sc_Line___init__.nd
    have hu := hr.units
    exact (js_cons (js_expr (j_callH h_need_number (hr.mono (by decide)) (takes_of rfl rfl rfl (E₁ := _) rfl) (ja_cons (jv 1) ja_nil))) (js_cons (js_expr (j_callH h_need_number (hr.mono (by decide)) (takes_of rfl rfl rfl (E₁ := _) rfl) (ja_cons (jv 2) ja_nil))) (js_one (js_asg (j_tup (ja_cons (j_callH h_ratio_of (hr.mono (by decide)) (takes_of rfl rfl rfl (E₁ := _) rfl) (ja_cons (jv 1) ja_nil)) (ja_cons (j_callH h_ratio_of (hr.mono (by decide)) (takes_of rfl rfl rfl (E₁ := _) rfl) (ja_cons (jv 2) ja_nil)) ja_nil))) (jg_tup rfl (jgs_cons (jg_fldN E.FN_own_slope (jv 0)) (jgs_cons (jg_fldN E.FN_own_height (jv 0)) jgs_nil)))))))
theorem sc_Ratio___mul__ : FnScope ["self", "other", "far"] ["self", "other"] (defScope s_Ratio___mul__) := ⟨rfl, rfl, rfl, by decide +kernel, rfl, by decide +kernel, by decide +kernel⟩
theorem ok_Ratio___mul__ (E : Fs K mg CR) (h_ratio_of : Has P w K mg base CR "ratio_of" 4 ["value"] F_ratio_of) (h_Ratio : HasR P w K mg base CR 2 okR) {f : Addr} {fd : FuncData} (F : FunD K "__mul__" "Ratio.__mul__" (defArgs s_Ratio___mul__) (defBody s_Ratio___mul__) (defScope s_Ratio___mul__) [] [] f fd) : FJ P w K mg base CR 5 f fd ["self", "other"] (runBody 3 d_Ratio___mul__) :=
  jf_fn F sc_Ratio___mul__ fun cdv A outer s H E' Nn hr => by
    have nd := sc_Ratio___mul__.nd
    have hu := hr.units
    exact (js_cons (js_set (i := 2) nd (j_callH h_ratio_of (hr.mono (by decide)) (takes_of rfl rfl rfl (E₁ := _) rfl) (ja_cons (jv 1) ja_nil))) (js_one (js_ret (j_callR h_Ratio (hr.mono (by decide)) (ja_cons (j_bin o_mul (j_top E.T (jv 0)) (j_top E.T (jv 2))) (ja_cons (j_bin o_mul (j_bot E.T (jv 0)) (j_bot E.T (jv 2))) ja_nil))))))
theorem sc_ordered : FnScope ["values", "integers", "bottom", "integer"] ["values"] (defScope s_ordered) := ⟨rfl, rfl, rfl, by decide +kernel, rfl, by decide +kernel, by decide +kernel⟩
theorem ok_ordered (E : Fs K mg CR) (h_common : Has P w K mg base CR "common" 2 ["values"] F_common) (h_Ratio : HasR P w K mg base CR 2 okR) {f : Addr} {fd : FuncData} (F : FunD K "ordered" "ordered" (defArgs s_ordered) (defBody s_ordered) (defScope s_ordered) [] [] f fd) : FJ P w K mg base CR 4 f fd ["values"] (runBody 4 d_ordered) :=
  jf_fn F sc_ordered fun cdv A outer s H E' Nn hr => by
    have nd := sc_ordered.nd
    have hu := hr.units
    exact (js_cons (js_asg (j_callH h_common (hr.mono (by decide)) (takes_of rfl rfl rfl (E₁ := _) rfl) (ja_cons (jv 0) ja_nil)) (jg_tup rfl (jgs_cons (jg_name 1 nd) (jgs_cons (jg_name 2 nd) jgs_nil)))) (js_one (js_ret (j_ofF (jf_comp rfl nd (ji_seq (j_callB c_sortedI rfl E.n_sorted (by decide +kernel) (ja_cons (jv 1) ja_nil))) (own := [("integer", 3)]) (blkOk_by (by kernel_rfl)) (fun _ _ _ _ _ _ => (jg_name 3 nd)) (fun _ _ _ _ _ _ => jts_nil) (fun _ _ _ _ _ _ => (j_callR h_Ratio (hr.mono (by decide)) (ja_cons (jv 3) (ja_cons (jv 2) ja_nil)))))))))
theorem sc_middle_line : FnScope ["pairs", "values", "slopes", "slope", "index", "x", "y", "far", "later"] ["pairs"] (defScope s_middle_line) := ⟨rfl, rfl, rfl, by decide +kernel, rfl, by decide +kernel, by decide +kernel⟩
theorem ok_middle_line (E : Fs K mg CR) (h_exc_TooMany : HasE P w K mg base "TooMany" "most" .ae) (h_exc_NoSpread : HasE0 K mg "NoSpread" .ae) (h_need_pairs : Has P w K mg base CR "need_pairs" 5 ["pairs"] F_need_pairs) (h_need_items : Has P w K mg base CR "need_items" 1 ["values"] F_need_items) (h_cmp : HasCm P w K mg base CR 5 F_Ratio___eq__) (h_bin_sub : HasBn P w K mg base CR "sub" 5 F_Ratio___sub__) (h_Ratio_over : HasM P w K mg base CR "over" 5 ["self", "other"] F_Ratio_over) (h_arranged : Has P w K mg base CR "arranged" 3 ["values"] F_arranged) (h_median_of : Has P w K mg base CR "median_of" 7 ["values"] F_median_of) (h_new_Line_2__012 : HasNew P w K mg base CR "Line" 5 ["self", "slope", "height"] 2 [] (fun us zs => pick3 [(0, 0), (0, 1), (0, 2)] us [] zs) F_Line___init__) (h_bin_mul : HasBn P w K mg base CR "mul" 5 F_Ratio___mul__) (h_ordered : Has P w K mg base CR "ordered" 4 ["values"] F_ordered) {f : Addr} {fd : FuncData} (F : FunD K "middle_line" "middle_line" (defArgs s_middle_line) (defBody s_middle_line) (defScope s_middle_line) [] [] f fd) : FJ P w K mg base CR 8 f fd ["pairs"] (runBody 9 d_middle_line) :=
  jf_fn F sc_middle_line fun cdv A outer s H E' Nn hr => by
    have nd := sc_middle_line.nd
    have hu := hr.units
    exact (js_cons (js_set (i := 1) nd (j_callH h_need_pairs (hr.mono (by decide)) (takes_of rfl rfl rfl (E₁ := _) rfl) (ja_cons (jv 0) ja_nil))) (js_cons (js_if (jt_cmp o_gtI (j_callB c_len rfl E.n_len (by decide +kernel) (ja_cons (jv 1) ja_nil)) (let ⟨t, h⟩ := E.c_MOST_MIDDLE; j_gint h ⟨t, rfl⟩)) (js_one (js_raise (k := 0) rfl h_exc_TooMany (hr.mono (by decide)) (takes_of rfl rfl rfl (E₁ := _) rfl) (let ⟨t, h⟩ := E.c_MOST_MIDDLE; j_gint h ⟨t, rfl⟩))) js_nil) (js_cons (js_expr (j_callH h_need_items (hr.mono (by decide)) (takes_of rfl rfl rfl (E₁ := _) rfl) (ja_cons (jv 1) ja_nil))) (js_cons (js_own (i := 2) nd (jf_lst ja_nil)) (js_cons (js_for (passes_of rfl) rfl (ji_enumA (ja_cons (jv 1) ja_nil) E.n_enumerate) (jg_tup rfl (jgs_cons (jg_name 4 nd) (jgs_cons (jg_tup rfl (jgs_cons (jg_name 5 nd) (jgs_cons (jg_name 6 nd) jgs_nil))) jgs_nil))) (js_one (js_expr (j_ext (i := 2) (j_ofF (jf_comp rfl nd (ji_seq (o_slice (jv 1) (jo_some (j_bin o_add (jv 4) j_int)) jo_none)) (own := [("far", 7), ("later", 8)]) (blkOk_by (by kernel_rfl)) (fun _ _ _ _ _ _ => (jg_tup rfl (jgs_cons (jg_name 7 nd) (jgs_cons (jg_name 8 nd) jgs_nil)))) (fun _ _ _ _ _ _ => (jts_one (jt_cmp (OJ.neR h_cmp (hr.mono (by decide)) takes0 (o_neA hu)) (jv 7) (jv 5)))) (fun _ _ _ _ _ _ => (j_mR h_Ratio_over E.T (hr.mono (by decide)) takes0 (j_bin (OJ.rl (op := .Sub) h_bin_sub (hr.mono (by decide)) takes0 o_sub) (jv 8) (jv 6)) (ja_cons (j_bin (OJ.rl (op := .Sub) h_bin_sub (hr.mono (by decide)) takes0 o_sub) (jv 7) (jv 5)) ja_nil))))))))) (js_cons (js_if (jt_bor (is := [2]) (jt_cmp (o_eqA hu) (jv 2) (j_lst ja_nil))) (js_one (js_raise0 rfl h_exc_NoSpread (takes_of rfl rfl rfl (E₁ := _) rfl))) js_nil) (js_cons (js_set (i := 3) nd (j_bor (is := [2]) (j_callH h_median_of (hr.mono (by decide)) (takes_of rfl rfl rfl (E₁ := _) rfl) (ja_cons (j_callH h_arranged (hr.mono (by decide)) (takes_of rfl rfl rfl (E₁ := _) rfl) (ja_cons (jv 2) ja_nil)) ja_nil)))) (js_one (js_ret (j_newA h_new_Line_2__012 h_new_Line_2__012.kp (hr.mono (by decide)) (takes_of rfl rfl rfl (E₁ := _) rfl) (ja_cons (jv 3) (ja_cons (j_callH h_median_of (hr.mono (by decide)) (takes_of rfl rfl rfl (E₁ := _) rfl) (ja_cons (j_callH h_ordered (hr.mono (by decide)) (takes_of rfl rfl rfl (E₁ := _) rfl) (ja_cons (j_ofF (jf_comp rfl nd (ji_seq (jv 1)) (own := [("x", 5), ("y", 6)]) (blkOk_by (by kernel_rfl)) (fun _ _ _ _ _ _ => (jg_tup rfl (jgs_cons (jg_name 5 nd) (jgs_cons (jg_name 6 nd) jgs_nil)))) (fun _ _ _ _ _ _ => jts_nil) (fun _ _ _ _ _ _ => (j_bin (OJ.rl (op := .Sub) h_bin_sub (hr.mono (by decide)) takes0 o_sub) (jv 6) (j_bin (OJ.rl (op := .Mult) h_bin_mul (hr.mono (by decide)) takes0 o_mul) (jv 3) (jv 5)))))) ja_nil)) ja_nil)) ja_nil))))))))))))
theorem sc_Line_height : FnScope ["self"] ["self"] (defScope s_Line_height) := ⟨rfl, rfl, rfl, by decide +kernel, rfl, by decide +kernel, by decide +kernel⟩
theorem ok_Line_height (E : Fs K mg CR)  {f : Addr} {fd : FuncData} (F : FunD K "height" "Line.height" (defArgs s_Line_height) (defBody s_Line_height) (defScope s_Line_height) [] [] f fd) : FJ P w K mg base CR 1 f fd ["self"] (runBody 1 d_Line_height) :=
  jf_fn F sc_Line_height fun cdv A outer s H E' Nn hr => by
    have nd := sc_Line_height.nd
    have hu := hr.units
    exact (js_one (js_ret (j_fldN E.FN_own_height (jv 0))))
theorem sc_Line_slope : FnScope ["self"] ["self"] (defScope s_Line_slope) := ⟨rfl, rfl, rfl, by decide +kernel, rfl, by decide +kernel, by decide +kernel⟩
theorem ok_Line_slope (E : Fs K mg CR)  {f : Addr} {fd : FuncData} (F : FunD K "slope" "Line.slope" (defArgs s_Line_slope) (defBody s_Line_slope) (defScope s_Line_slope) [] [] f fd) : FJ P w K mg base CR 1 f fd ["self"] (runBody 1 d_Line_slope) :=
  jf_fn F sc_Line_slope fun cdv A outer s H E' Nn hr => by
    have nd := sc_Line_slope.nd
    have hu := hr.units
    exact (js_one (js_ret (j_fldN E.FN_own_slope (jv 0))))
theorem sc_w_seen : FnScope ["_law_straight"] ["_law_straight"] (defScope s_w_seen) := ⟨rfl, rfl, rfl, by decide +kernel, rfl, by decide +kernel, by decide +kernel⟩
theorem ok_w_seen (E : Fs K mg CR) (h_npr_Line_height : HasPN P w K mg base CR "Line" "height" 1 F_Line_height) (h_w_taken : Has P w K mg base CR "_law_taken" 3 ["_law_value"] F_w_taken) (h_npr_Line_slope : HasPN P w K mg base CR "Line" "slope" 1 F_Line_slope) {f : Addr} {fd : FuncData} (F : FunD K "_law_seen" "_law_seen" (defArgs s_w_seen) (defBody s_w_seen) (defScope s_w_seen) [] [] f fd) : FJ P w K mg base CR 4 f fd ["_law_straight"] (runBody 1 d_w_seen) :=
  jf_fn F sc_w_seen fun cdv A outer s H E' Nn hr => by
    have nd := sc_w_seen.nd
    have hu := hr.units
    exact (js_one (js_ret (j_tup (ja_cons (j_callH h_w_taken (hr.mono (by decide)) (takes_of rfl rfl rfl (E₁ := _) rfl) (ja_cons (j_propN (pt_one h_npr_Line_slope) (hr.mono (by decide)) (jv 0)) ja_nil)) (ja_cons (j_callH h_w_taken (hr.mono (by decide)) (takes_of rfl rfl rfl (E₁ := _) rfl) (ja_cons (j_propN (pt_one h_npr_Line_height) (hr.mono (by decide)) (jv 0)) ja_nil)) ja_nil)))))
theorem sc_w_word : FnScope ["_law_error", "_law_kinds", "_law_word_here", "_law_is_it"] ["_law_error"] (defScope s_w_word) := ⟨rfl, rfl, rfl, by decide +kernel, rfl, by decide +kernel, by decide +kernel⟩
theorem ok_w_word (E : Fs K mg CR) (h_isx_BadShare : HasIX K mg ["BadShare"] ["BadInput", "Absent", "Undefined", "BadNumber", "BadSample", "BadWeights", "BadPairs", "BadShare", "BadRule", "BadAmount", "BadEdges", "BadSummary", "Empty", "TooFew", "NotThere", "DividedByZero", "NoSpread", "Impossible", "Unbounded", "TooMany"] ["BadShare"]) (h_isx_BadNumber : HasIX K mg ["BadNumber"] ["BadInput", "Absent", "Undefined", "BadNumber", "BadSample", "BadWeights", "BadPairs", "BadShare", "BadRule", "BadAmount", "BadEdges", "BadSummary", "Empty", "TooFew", "NotThere", "DividedByZero", "NoSpread", "Impossible", "Unbounded", "TooMany"] ["BadNumber"]) (h_isx_BadAmount : HasIX K mg ["BadAmount"] ["BadInput", "Absent", "Undefined", "BadNumber", "BadSample", "BadWeights", "BadPairs", "BadShare", "BadRule", "BadAmount", "BadEdges", "BadSummary", "Empty", "TooFew", "NotThere", "DividedByZero", "NoSpread", "Impossible", "Unbounded", "TooMany"] ["BadAmount"]) (h_isx_BadRule : HasIX K mg ["BadRule"] ["BadInput", "Absent", "Undefined", "BadNumber", "BadSample", "BadWeights", "BadPairs", "BadShare", "BadRule", "BadAmount", "BadEdges", "BadSummary", "Empty", "TooFew", "NotThere", "DividedByZero", "NoSpread", "Impossible", "Unbounded", "TooMany"] ["BadRule"]) (h_isx_BadSummary : HasIX K mg ["BadSummary"] ["BadInput", "Absent", "Undefined", "BadNumber", "BadSample", "BadWeights", "BadPairs", "BadShare", "BadRule", "BadAmount", "BadEdges", "BadSummary", "Empty", "TooFew", "NotThere", "DividedByZero", "NoSpread", "Impossible", "Unbounded", "TooMany"] ["BadSummary"]) (h_ef_value : HasEF K ["BadNumber", "BadShare", "BadRule", "BadAmount", "BadSummary"] "value") (h_isx_BadWeights : HasIX K mg ["BadWeights"] ["BadInput", "Absent", "Undefined", "BadNumber", "BadSample", "BadWeights", "BadPairs", "BadShare", "BadRule", "BadAmount", "BadEdges", "BadSummary", "Empty", "TooFew", "NotThere", "DividedByZero", "NoSpread", "Impossible", "Unbounded", "TooMany"] ["BadWeights"]) (h_isx_BadSample : HasIX K mg ["BadSample"] ["BadInput", "Absent", "Undefined", "BadNumber", "BadSample", "BadWeights", "BadPairs", "BadShare", "BadRule", "BadAmount", "BadEdges", "BadSummary", "Empty", "TooFew", "NotThere", "DividedByZero", "NoSpread", "Impossible", "Unbounded", "TooMany"] ["BadSample"]) (h_isx_BadEdges : HasIX K mg ["BadEdges"] ["BadInput", "Absent", "Undefined", "BadNumber", "BadSample", "BadWeights", "BadPairs", "BadShare", "BadRule", "BadAmount", "BadEdges", "BadSummary", "Empty", "TooFew", "NotThere", "DividedByZero", "NoSpread", "Impossible", "Unbounded", "TooMany"] ["BadEdges"]) (h_isx_BadPairs : HasIX K mg ["BadPairs"] ["BadInput", "Absent", "Undefined", "BadNumber", "BadSample", "BadWeights", "BadPairs", "BadShare", "BadRule", "BadAmount", "BadEdges", "BadSummary", "Empty", "TooFew", "NotThere", "DividedByZero", "NoSpread", "Impossible", "Unbounded", "TooMany"] ["BadPairs"]) (h_ef_index : HasEF K ["BadSample", "BadWeights", "BadPairs", "BadEdges"] "index") (h_isx_TooFew : HasIX K mg ["TooFew"] ["BadInput", "Absent", "Undefined", "BadNumber", "BadSample", "BadWeights", "BadPairs", "BadShare", "BadRule", "BadAmount", "BadEdges", "BadSummary", "Empty", "TooFew", "NotThere", "DividedByZero", "NoSpread", "Impossible", "Unbounded", "TooMany"] ["TooFew"]) (h_ef_needed : HasEF K ["TooFew"] "needed") (h_isx_NotThere_TooMany : HasIX K mg ["NotThere", "TooMany"] ["BadInput", "Absent", "Undefined", "BadNumber", "BadSample", "BadWeights", "BadPairs", "BadShare", "BadRule", "BadAmount", "BadEdges", "BadSummary", "Empty", "TooFew", "NotThere", "DividedByZero", "NoSpread", "Impossible", "Unbounded", "TooMany"] ["NotThere", "TooMany"]) (h_isx_NotThere : HasIX K mg ["NotThere"] ["BadInput", "Absent", "Undefined", "BadNumber", "BadSample", "BadWeights", "BadPairs", "BadShare", "BadRule", "BadAmount", "BadEdges", "BadSummary", "Empty", "TooFew", "NotThere", "DividedByZero", "NoSpread", "Impossible", "Unbounded", "TooMany"] ["NotThere"]) (h_ef_item : HasEF K ["NotThere"] "item") (h_ef_most : HasEF K ["TooMany"] "most") (h_isx_NoSpread : HasIX K mg ["NoSpread"] ["BadInput", "Absent", "Undefined", "BadNumber", "BadSample", "BadWeights", "BadPairs", "BadShare", "BadRule", "BadAmount", "BadEdges", "BadSummary", "Empty", "TooFew", "NotThere", "DividedByZero", "NoSpread", "Impossible", "Unbounded", "TooMany"] ["NoSpread"]) (h_isx_Empty : HasIX K mg ["Empty"] ["BadInput", "Absent", "Undefined", "BadNumber", "BadSample", "BadWeights", "BadPairs", "BadShare", "BadRule", "BadAmount", "BadEdges", "BadSummary", "Empty", "TooFew", "NotThere", "DividedByZero", "NoSpread", "Impossible", "Unbounded", "TooMany"] ["Empty"]) (h_isx_Unbounded : HasIX K mg ["Unbounded"] ["BadInput", "Absent", "Undefined", "BadNumber", "BadSample", "BadWeights", "BadPairs", "BadShare", "BadRule", "BadAmount", "BadEdges", "BadSummary", "Empty", "TooFew", "NotThere", "DividedByZero", "NoSpread", "Impossible", "Unbounded", "TooMany"] ["Unbounded"]) (h_isx_Impossible : HasIX K mg ["Impossible"] ["BadInput", "Absent", "Undefined", "BadNumber", "BadSample", "BadWeights", "BadPairs", "BadShare", "BadRule", "BadAmount", "BadEdges", "BadSummary", "Empty", "TooFew", "NotThere", "DividedByZero", "NoSpread", "Impossible", "Unbounded", "TooMany"] ["Impossible"]) {f : Addr} {fd : FuncData} (F : FunD K "_law_word" "_law_word" (defArgs s_w_word) (defBody s_w_word) (defScope s_w_word) [] [] f fd) : FJ P w K mg base CR 1 f fd ["_law_error"] (runBody 4 d_w_word) :=
  jf_fn F sc_w_word fun cdv A outer s H E' Nn hr => by
    have nd := sc_w_word.nd
    have hu := hr.units
    exact (js_cons (js_set (i := 1) nd (j_lst (ja_cons (j_tup (ja_cons j_str (ja_cons (j_isX1 h_isx_BadNumber E.n_isinstance (jv 0)) ja_nil))) (ja_cons (j_tup (ja_cons j_str (ja_cons (j_isX1 h_isx_BadShare E.n_isinstance (jv 0)) ja_nil))) ja_nil)))) (js_cons (js_set (i := 1) nd (j_bin o_add (jv 1) (j_lst (ja_cons (j_tup (ja_cons j_str (ja_cons (j_isX1 h_isx_BadRule E.n_isinstance (jv 0)) ja_nil))) (ja_cons (j_tup (ja_cons j_str (ja_cons (j_isX1 h_isx_BadAmount E.n_isinstance (jv 0)) ja_nil))) ja_nil))))) (js_cons (js_for (passes_of rfl) rfl (ji_seq (j_bin o_add (jv 1) (j_lst (ja_cons (j_tup (ja_cons j_str (ja_cons (j_isX1 h_isx_BadSummary E.n_isinstance (jv 0)) ja_nil))) ja_nil)))) (jg_tup rfl (jgs_cons (jg_name 2 nd) (jgs_cons (jg_name 3 nd) jgs_nil))) (js_one (js_if (jt (jv 3)) (js_one (js_ret (j_tup (ja_cons (jv 2) (ja_cons (j_efld h_ef_value (jv 0)) ja_nil))))) js_nil))) (js_cons (js_set (i := 1) nd (j_lst (ja_cons (j_tup (ja_cons j_str (ja_cons (j_isX1 h_isx_BadSample E.n_isinstance (jv 0)) ja_nil))) (ja_cons (j_tup (ja_cons j_str (ja_cons (j_isX1 h_isx_BadWeights E.n_isinstance (jv 0)) ja_nil))) ja_nil)))) (js_cons (js_for (passes_of rfl) rfl (ji_seq (j_bin o_add (jv 1) (j_lst (ja_cons (j_tup (ja_cons j_str (ja_cons (j_isX1 h_isx_BadPairs E.n_isinstance (jv 0)) ja_nil))) (ja_cons (j_tup (ja_cons j_str (ja_cons (j_isX1 h_isx_BadEdges E.n_isinstance (jv 0)) ja_nil))) ja_nil))))) (jg_tup rfl (jgs_cons (jg_name 2 nd) (jgs_cons (jg_name 3 nd) jgs_nil))) (js_one (js_if (jt (jv 3)) (js_one (js_ret (j_tup (ja_cons (jv 2) (ja_cons (j_efld h_ef_index (jv 0)) ja_nil))))) js_nil))) (js_cons (js_if (jt (j_isX1 h_isx_TooFew E.n_isinstance (jv 0))) (js_one (js_ret (j_tup (ja_cons j_str (ja_cons (j_efld h_ef_needed (jv 0)) ja_nil))))) js_nil) (js_cons (js_if (jt (j_isX2 h_isx_NotThere_TooMany E.n_isinstance (jv 0))) (js_one (js_ret (j_if (jt (j_isX1 h_isx_NotThere E.n_isinstance (jv 0))) (j_tup (ja_cons j_str (ja_cons (j_efld h_ef_item (jv 0)) ja_nil))) (j_tup (ja_cons j_str (ja_cons (j_efld h_ef_most (jv 0)) ja_nil)))))) js_nil) (js_cons (js_set (i := 1) nd (j_lst (ja_cons (j_tup (ja_cons j_str (ja_cons (j_isX1 h_isx_Empty E.n_isinstance (jv 0)) ja_nil))) (ja_cons (j_tup (ja_cons j_str (ja_cons (j_isX1 h_isx_NoSpread E.n_isinstance (jv 0)) ja_nil))) ja_nil)))) (js_cons (js_set (i := 1) nd (j_bin o_add (jv 1) (j_lst (ja_cons (j_tup (ja_cons j_str (ja_cons (j_isX1 h_isx_Impossible E.n_isinstance (jv 0)) ja_nil))) (ja_cons (j_tup (ja_cons j_str (ja_cons (j_isX1 h_isx_Unbounded E.n_isinstance (jv 0)) ja_nil))) ja_nil))))) (js_one (js_ret (j_tup (ja_cons (j_ix (j_bin o_add (j_ofF (jf_comp rfl nd (ji_seq (jv 1)) (own := [("_law_word_here", 2), ("_law_is_it", 3)]) (blkOk_by (by kernel_rfl)) (fun _ _ _ _ _ _ => (jg_tup rfl (jgs_cons (jg_name 2 nd) (jgs_cons (jg_name 3 nd) jgs_nil)))) (fun _ _ _ _ _ _ => (jts_one (jt (jv 3)))) (fun _ _ _ _ _ _ => (jv 2)))) (j_lst (ja_cons j_str ja_nil))) j_int) (ja_cons j_non ja_nil))))))))))))))
theorem sc_w_told : FnScope ["_law_call", "_law_error", "_law_found", "e"] ["_law_call"] (defScope s_w_told) := ⟨rfl, rfl, rfl, by decide +kernel, rfl, by decide +kernel, by decide +kernel⟩
theorem ok_w_told (E : Fs K mg CR) (h_try_BadInput_Absent_Undefined : HasT K mg ["BadInput", "Absent", "Undefined"] ["BadInput", "Absent", "Undefined", "BadNumber", "BadSample", "BadWeights", "BadPairs", "BadShare", "BadRule", "BadAmount", "BadEdges", "BadSummary", "Empty", "TooFew", "NotThere", "DividedByZero", "NoSpread", "Impossible", "Unbounded", "TooMany"]) (h_w_word : Has P w K mg base CR "_law_word" 1 ["_law_error"] F_w_word) {f : Addr} {fd : FuncData} (F : FunD K "_law_told" "_law_told" (defArgs s_w_told) (defBody s_w_told) (defScope s_w_told) [] [] f fd) : FJL P w K mg base CR 2 f fd ["_law_call", "_law_error", "_law_found", "e"] "_law_told" (defScope s_w_told) "_law_call" (fun t xs B => runBody 4 (d_w_told_k30 t xs B)) :=
  jf_fnL F sc_w_told fun t xs B cdv A outer s H E' Nn hr act => by
    have nd := sc_w_told.nd
    have hu := hr.units
    exact (js_cons (js_asg (j_tup (ja_cons j_non (ja_cons j_non ja_nil))) (jg_tup rfl (jgs_cons (jg_name 1 nd) (jgs_cons (jg_name 2 nd) jgs_nil)))) (js_cons (js_tryAs (yes := ["BadInput", "Absent", "Undefined", "BadNumber", "BadSample", "BadWeights", "BadPairs", "BadShare", "BadRule", "BadAmount", "BadEdges", "BadSummary", "Empty", "TooFew", "NotThere", "DividedByZero", "NoSpread", "Impossible", "Unbounded", "TooMany"]) (i := 3) nd (clz_tup (nml_cons (h_try_BadInput_Absent_Undefined.1 "BadInput" (by decide)) (nml_cons (h_try_BadInput_Absent_Undefined.1 "Absent" (by decide)) (nml_cons (h_try_BadInput_Absent_Undefined.1 "Undefined" (by decide)) nml_nil))) (by show 3 ≤ 64; decide)) h_try_BadInput_Absent_Undefined.2 (fun W pn xe tk => (js_one (js_set (i := 2) nd (j_lst (ja_cons (act W pn xe _ _ tk) ja_nil))))) (fun a pn => (js_one (js_set (i := 1) nd (jv 3))))) (js_one (js_ret (j_if (jt_cmp o_isN (jv 1) j_non) (jv 2) (j_callH h_w_word (hr.mono (by decide)) (takes_of rfl rfl rfl (E₁ := _) rfl) (ja_cons (jv 1) ja_nil)))))))
theorem sc_w_mixed : FnScope ["_law_source_here", "_law_items", "_law_rest", "_law_found"] ["_law_source_here", "_law_items"] (defScope s_w_mixed) := ⟨rfl, rfl, rfl, by decide +kernel, rfl, by decide +kernel, by decide +kernel⟩
theorem ok_w_mixed (E : Fs K mg CR) (h_w_next : Has P w K mg base CR "_law_next" 1 ["_law_source_here", "_law_many"] F_w_next) {f : Addr} {fd : FuncData} (F : FunD K "_law_mixed" "_law_mixed" (defArgs s_w_mixed) (defBody s_w_mixed) (defScope s_w_mixed) [] [] f fd) : FJ P w K mg base CR 2 f fd ["_law_source_here", "_law_items"] (runBody 4 d_w_mixed) :=
  jf_fn F sc_w_mixed fun cdv A outer s H E' Nn hr => by
    have nd := sc_w_mixed.nd
    have hu := hr.units
    exact (js_cons (js_parX2 rfl nd (jx_own (jf_list (x := ⟨0, 0, 0, 0⟩) (jv 1) E.n_list) fun _ => (jx_own (jf_lst ja_nil) fun _ => jx_nil))) (js_cons (js_while (fuel := (fuL 2)) (passes_of rfl) (jt_bor (is := [2, 3]) (jt_cmp (o_neA hu) (jv 2) (j_lst ja_nil))) (js_one (js_expr (j_app (i := 3) (j_popAt (i := 2) (j_bor (is := [2, 3]) (j_callH h_w_next (hr.mono (by decide)) (takes_of rfl rfl rfl (E₁ := _) rfl) (ja_cons (jv 0) (ja_cons (j_callB c_len rfl E.n_len (by decide +kernel) (ja_cons (jv 2) ja_nil)) ja_nil))))))))) (js_one (js_frz (is := [2, 3]) (js_ret (jv 3))))))
theorem sc_w_right : FnScope ["_law_source_here", "_law_dots_here", "_law_due_here", "_law_before", "_law_told_here", "_law_mixed_here", "_law_given_here", "_law_pair"] ["_law_source_here"] (defScope s_w_right) := ⟨rfl, rfl, rfl, by decide +kernel, rfl, by decide +kernel, by decide +kernel⟩
theorem ok_w_right (E : Fs K mg CR) {h : Heap} (TB : Tabs h K mkrs) (tb : ∀ x ∈ mkrs, LamX.TabB base mg (cdA K x) (tA K x)) (h_w_dots : Has P w K mg base CR "_law_dots" 3 ["_law_source_here", "_law_least", "_law_most"] F_w_dots) (h_w_paired : Has P w K mg base CR "_law_paired" 5 ["_law_dots_here"] F_w_paired) (h_w_due : Has P w K mg base CR "_law_due" 5 ["_law_dots_here"] F_w_due_k30) (h_w_kept : Has P w K mg base CR "_law_kept" 4 ["_law_given_here"] F_w_kept) (h_middle_line : Has P w K mg base CR "middle_line" 8 ["pairs"] F_middle_line) (h_w_seen : Has P w K mg base CR "_law_seen" 4 ["_law_straight"] F_w_seen) (h_lam_w_told : HasL P w K mg base CR "_law_told" 2 F_w_told_k30) (h_w_mixed : Has P w K mg base CR "_law_mixed" 2 ["_law_source_here", "_law_items"] F_w_mixed) (h_middle_line_0_pairs_x0 : HasK P w K mg base CR "middle_line" 8 ["pairs"] 0 ["pairs"] (fun us zs => pick3 [(2, 0)] us [] zs) F_middle_line) {fd : FuncData} (F : FunD K "_law_right" "_law_right" (defArgs s_w_right) (defBody s_w_right) (defScope s_w_right) [] [] (He.ga K "_law_right") fd) : FJ P w K mg base CR 11 (He.ga K "_law_right") fd ["_law_source_here"] (runBody 8 d_w_right_k30) :=
  jf_fnC F sc_w_right fun cdv hcd A outer s H E' Nn hr => by
    have nd := sc_w_right.nd
    have hu := hr.units
    have mk := fun (E : XK) => Mkr.of (P := P) (w := w) (N := ["_law_source_here", "_law_dots_here", "_law_due_here", "_law_before", "_law_told_here", "_law_mixed_here", "_law_given_here", "_law_pair"]) (scope := defScope s_w_right) (A := A) (outer := outer) (s := s) (H := H) (E := E) TB tb (y := "_law_right") (by decide +kernel) hcd rfl
    have mk := mk E'
    exact (js_cons (js_set (i := 1) nd (j_callH h_w_dots (hr.mono (by decide)) (takes_of rfl rfl rfl (E₁ := _) rfl) (ja_cons (jv 0) (ja_cons j_int (ja_cons j_int ja_nil))))) (js_cons (js_asg (j_tup (ja_cons (j_callH h_w_due (hr.mono (by decide)) (takes_of rfl rfl rfl (E₁ := _) rfl) (ja_cons (jv 1) ja_nil)) (ja_cons (j_callH h_w_paired (hr.mono (by decide)) (takes_of rfl rfl rfl (E₁ := _) rfl) (ja_cons (jv 1) ja_nil)) ja_nil))) (jg_tup rfl (jgs_cons (jg_name 2 nd) (jgs_cons (jg_name 6 nd) jgs_nil)))) (js_cons (js_set (i := 2) nd (j_if (jt_cmp o_isN (jv 2) j_non) (j_tup (ja_cons j_str (ja_cons j_non ja_nil))) (j_lst (ja_cons (jv 2) ja_nil)))) (js_cons (js_setLc (i := 3) rfl nd (sw_true (by rfl) (by rfl) (by kernel_rfl) (by kernel_rfl)) (ji_seq (jv 6)) (own := [("_law_pair", 7)]) (blkOk_by (by kernel_rfl)) (fun _ _ _ _ _ _ => (jg_name 7 nd)) (fun _ _ _ _ _ _ => jts_nil) (fun _ _ _ _ _ _ => (j_callH h_w_kept (hr.mono (by decide)) takes0 (ja_cons (jv 7) ja_nil)))) (js_cons (js_own (i := 4) nd (jf_lst (ja_cons (j_lamcall (kl := 8) h_lam_w_told (hr.mono (by decide)) (hr.mono (by decide)) (takes_of rfl rfl rfl (E₁ := _) rfl) mk (fun A outer s H Ex f c' Nn hr => by have hu := hr.units; exact (j_callH h_w_seen (hr.mono (by decide)) (takes_of rfl rfl rfl (E₁ := _) rfl) (ja_cons (j_callH h_middle_line (hr.mono (by decide)) (takes_of rfl rfl rfl (E₁ := _) rfl) (ja_cons (jv 6) ja_nil)) ja_nil)))) ja_nil))) (js_cons (js_set (i := 5) nd (j_callTy c_tuple rfl E.n_tuple (by decide +kernel) (ja_cons (j_callH h_w_mixed (hr.mono (by decide)) (takes_of rfl rfl rfl (E₁ := _) rfl) (ja_cons (jv 0) (ja_cons (jv 6) ja_nil))) ja_nil))) (js_cons (js_expr (j_app (i := 4) (j_lamcall (kl := 8) h_lam_w_told (hr.mono (by decide)) (hr.mono (by decide)) (takes_of rfl rfl rfl (E₁ := _) rfl) mk (fun A outer s H Ex f c' Nn hr => by have hu := hr.units; exact (j_callH h_w_seen (hr.mono (by decide)) (takes_of rfl rfl rfl (E₁ := _) rfl) (ja_cons (j_callK0 h_middle_line_0_pairs_x0 (hr.mono (by decide)) (takes_of rfl rfl rfl (E₁ := _) rfl) (jk_cons (jv 5) jk_nil)) ja_nil)))))) (js_one (js_frz (is := [4]) (js_ret (j_and (j_cmp (o_eqA hu) (jv 4) (j_lst (ja_cons (jv 2) (ja_cons (jv 2) ja_nil)))) (j_one (j_cmp (o_eqA hu) (j_ofF (jf_comp rfl nd (ji_seq (jv 6)) (own := [("_law_pair", 7)]) (blkOk_by (by kernel_rfl)) (fun _ _ _ _ _ _ => (jg_name 7 nd)) (fun _ _ _ _ _ _ => jts_nil) (fun _ _ _ _ _ _ => (j_callH h_w_kept (hr.mono (by decide)) takes0 (ja_cons (jv 7) ja_nil))))) (jv 3))))))))))))))
theorem sc_w_moved_right : FnScope ["_law_source_here", "_law_at", "_law_dots_here", "_law_far", "_law_by", "_law_up", "_law_x"] ["_law_source_here"] (defScope s_w_moved_right) := ⟨rfl, rfl, rfl, by decide +kernel, rfl, by decide +kernel, by decide +kernel⟩
theorem ok_w_moved_right (E : Fs K mg CR) (h_w_drawn : Has P w K mg base CR "_law_drawn" 2 ["_law_source_here"] F_w_drawn) (h_w_next : Has P w K mg base CR "_law_next" 1 ["_law_source_here", "_law_many"] F_w_next) (h_w_times : Has P w K mg base CR "_law_times" 2 ["_law_one", "_law_other"] F_w_times) (h_w_plus : Has P w K mg base CR "_law_plus" 2 ["_law_one", "_law_other"] F_w_plus) (h_w_low : Has P w K mg base CR "_law_low" 1 ["_law_top", "_law_bottom"] F_w_low) (h_w_paired : Has P w K mg base CR "_law_paired" 5 ["_law_dots_here"] F_w_paired) (h_middle_line : Has P w K mg base CR "middle_line" 8 ["pairs"] F_middle_line) (h_w_seen : Has P w K mg base CR "_law_seen" 4 ["_law_straight"] F_w_seen) {f : Addr} {fd : FuncData} (F : FunD K "_law_moved_right" "_law_moved_right" (defArgs s_w_moved_right) (defBody s_w_moved_right) (defScope s_w_moved_right) [] [] f fd) : FJ P w K mg base CR 9 f fd ["_law_source_here"] (runBody 7 d_w_moved_right_k30) :=
  jf_fn F sc_w_moved_right fun cdv A outer s H E' Nn hr => by
    have nd := sc_w_moved_right.nd
    have hu := hr.units
    exact (js_cons (js_asg (j_tup (ja_cons (j_callH h_w_drawn (hr.mono (by decide)) (takes_of rfl rfl rfl (E₁ := _) rfl) (ja_cons (jv 0) ja_nil)) (ja_cons (j_callH h_w_drawn (hr.mono (by decide)) (takes_of rfl rfl rfl (E₁ := _) rfl) (ja_cons (jv 0) ja_nil)) ja_nil))) (jg_tup rfl (jgs_cons (jg_name 4 nd) (jgs_cons (jg_name 5 nd) jgs_nil)))) (js_cons (js_set (i := 1) nd (j_callH h_w_next (hr.mono (by decide)) (takes_of rfl rfl rfl (E₁ := _) rfl) (ja_cons (jv 0) (ja_cons j_int ja_nil)))) (js_cons (js_setLc (i := 2) rfl nd (sw_true (by rfl) (by rfl) (by kernel_rfl) (by kernel_rfl)) (ji_range1 (ja_cons j_int ja_nil) E.n_range) (own := [("_law_x", 6)]) (blkOk_by (by kernel_rfl)) (fun _ _ _ _ _ _ => (jg_name 6 nd)) (fun _ _ _ _ _ _ => jts_nil) (fun _ _ _ _ _ _ => (j_tup (ja_cons (j_tup (ja_cons (jv 6) (ja_cons j_int ja_nil))) (ja_cons (j_callH h_w_plus (hr.mono (by decide)) takes0 (ja_cons (jv 5) (ja_cons (j_callH h_w_times (hr.mono (by decide)) takes0 (ja_cons (jv 4) (ja_cons (j_tup (ja_cons (jv 6) (ja_cons j_int ja_nil))) ja_nil))) ja_nil))) ja_nil))))) (js_cons (js_set (i := 3) nd (j_callH h_w_low (hr.mono (by decide)) (takes_of rfl rfl rfl (E₁ := _) rfl) (ja_cons (j_bin o_sub (j_callH h_w_next (hr.mono (by decide)) (takes_of rfl rfl rfl (E₁ := _) rfl) (ja_cons (jv 0) (ja_cons j_int ja_nil))) j_int) (ja_cons (j_bin o_add j_int (j_callH h_w_next (hr.mono (by decide)) (takes_of rfl rfl rfl (E₁ := _) rfl) (ja_cons (jv 0) (ja_cons j_int ja_nil)))) ja_nil)))) (js_cons (js_set (i := 2) nd (j_bin o_add (j_bin o_add (o_slice (jv 2) jo_none (jo_some (jv 1))) (j_lst (ja_cons (j_tup (ja_cons (j_ix (j_ix (jv 2) (jv 1)) j_int) (ja_cons (jv 3) ja_nil))) ja_nil))) (o_slice (jv 2) (jo_some (j_bin o_add (jv 1) j_int)) jo_none))) (js_one (js_ret (j_cmp (o_eqA hu) (j_callH h_w_seen (hr.mono (by decide)) (takes_of rfl rfl rfl (E₁ := _) rfl) (ja_cons (j_callH h_middle_line (hr.mono (by decide)) (takes_of rfl rfl rfl (E₁ := _) rfl) (ja_cons (j_callH h_w_paired (hr.mono (by decide)) (takes_of rfl rfl rfl (E₁ := _) rfl) (ja_cons (jv 2) ja_nil)) ja_nil)) ja_nil)) (j_tup (ja_cons (jv 4) (ja_cons (jv 5) ja_nil)))))))))))
theorem sc_law : FnScope ["_law_script", "_law_k", "_law_some", "_law_told_here", "_law_source_here", "_law_turn", "_law_x"] ["_law_script"] (defScope s_law) := ⟨rfl, rfl, rfl, by decide +kernel, rfl, by decide +kernel, by decide +kernel⟩
theorem ok_law (E : Fs K mg CR) {h : Heap} (TB : Tabs h K mkrs) (tb : ∀ x ∈ mkrs, LamX.TabB base mg (cdA K x) (tA K x)) (h_w_source : Has P w K mg base CR "_law_source" 1 ["_law_script", "_law_k"] F_w_source) (h_w_right : Has P w K mg base CR "_law_right" 11 ["_law_source_here"] F_w_right_k30) (h_w_moved_right : Has P w K mg base CR "_law_moved_right" 9 ["_law_source_here"] F_w_moved_right_k30) (h_middle_line : Has P w K mg base CR "middle_line" 8 ["pairs"] F_middle_line) (h_w_seen : Has P w K mg base CR "_law_seen" 4 ["_law_straight"] F_w_seen) (h_lam_w_told : HasL P w K mg base CR "_law_told" 2 F_w_told_k30) {fd : FuncData} (F : FunD K "law" "law" (defArgs s_law) (defBody s_law) (defScope s_law) [] [] (He.ga K "law") fd) : FJ P w K mg base CR 12 (He.ga K "law") fd ["_law_script"] (runBody 7 d_law_k30) :=
  jf_fnC F sc_law fun cdv hcd A outer s H E' Nn hr => by
    have nd := sc_law.nd
    have hu := hr.units
    have mk := fun (E : XK) => Mkr.of (P := P) (w := w) (N := ["_law_script", "_law_k", "_law_some", "_law_told_here", "_law_source_here", "_law_turn", "_law_x"]) (scope := defScope s_law) (A := A) (outer := outer) (s := s) (H := H) (E := E) TB tb (y := "law") (by decide +kernel) hcd rfl
    have mk := mk E'
    exact (js_cons (js_for (passes_of rfl) rfl (ji_range1 (ja_cons (j_callB (c_min2 rfl) rfl E.n_min (by decide +kernel) (ja_cons j_int (ja_cons (j_bin o_add j_int (j_callB c_len rfl E.n_len (by decide +kernel) (ja_cons (jv 0) ja_nil))) ja_nil))) ja_nil) E.n_range) (jg_name 1 nd) (js_cons (js_set (i := 4) nd (j_callH h_w_source (hr.mono (by decide)) (takes_of rfl rfl rfl (E₁ := _) rfl) (ja_cons (jv 0) (ja_cons (jv 1) ja_nil)))) (js_one (js_for (passes_of rfl) rfl (ji_range1 (ja_cons j_int ja_nil) E.n_range) (jg_name 5 nd) (js_one (js_if (jt_w (jw_or (jt_not (jt (j_callH h_w_right (hr.mono (by decide)) (takes_of rfl rfl rfl (E₁ := _) rfl) (ja_cons (jv 4) ja_nil)))) (jw_or1 (jt_not (jt (j_callH h_w_moved_right (hr.mono (by decide)) (takes_of rfl rfl rfl (E₁ := _) rfl) (ja_cons (jv 4) ja_nil))))))) (js_one (js_ret j_bl)) js_nil)))))) (js_cons (js_set (i := 2) nd (j_ofF (jf_comp rfl nd (ji_range1 (ja_cons j_int ja_nil) E.n_range) (own := [("_law_x", 6)]) (blkOk_by (by kernel_rfl)) (fun _ _ _ _ _ _ => (jg_name 6 nd)) (fun _ _ _ _ _ _ => jts_nil) (fun _ _ _ _ _ _ => (j_tup (ja_cons (jv 6) (ja_cons (j_bin o_mul (jv 6) (jv 6)) ja_nil))))))) (js_cons (js_own (i := 3) nd (jf_lst (ja_cons (j_lamcall (kl := 8) h_lam_w_told (hr.mono (by decide)) (hr.mono (by decide)) (takes_of rfl rfl rfl (E₁ := _) rfl) mk (fun A outer s H Ex f c' Nn hr => by have hu := hr.units; exact (j_ix (j_callH h_w_seen (hr.mono (by decide)) (takes_of rfl rfl rfl (E₁ := _) rfl) (ja_cons (j_callH h_middle_line (hr.mono (by decide)) (takes_of rfl rfl rfl (E₁ := _) rfl) (ja_cons (jv 2) ja_nil)) ja_nil)) j_int))) ja_nil))) (js_cons (js_expr (j_app (i := 3) (j_lamcall (kl := 8) h_lam_w_told (hr.mono (by decide)) (hr.mono (by decide)) (takes_of rfl rfl rfl (E₁ := _) rfl) mk (fun A outer s H Ex f c' Nn hr => by have hu := hr.units; exact (j_callH h_middle_line (hr.mono (by decide)) (takes_of rfl rfl rfl (E₁ := _) rfl) (ja_cons (j_bin o_add (jv 2) (j_lst (ja_cons (j_tup (ja_cons j_int (ja_cons j_int ja_nil))) ja_nil))) ja_nil)))))) (js_cons (js_expr (j_app (i := 3) (j_lamcall (kl := 8) h_lam_w_told (hr.mono (by decide)) (hr.mono (by decide)) (takes_of rfl rfl rfl (E₁ := _) rfl) mk (fun A outer s H Ex f c' Nn hr => by have hu := hr.units; exact (j_callH h_middle_line (hr.mono (by decide)) (takes_of rfl rfl rfl (E₁ := _) rfl) (ja_cons (j_bin o_mul (j_lst (ja_cons (j_tup (ja_cons j_int (ja_cons j_int ja_nil))) ja_nil)) j_int) ja_nil)))))) (js_cons (js_expr (j_app (i := 3) (j_lamcall (kl := 8) h_lam_w_told (hr.mono (by decide)) (hr.mono (by decide)) (takes_of rfl rfl rfl (E₁ := _) rfl) mk (fun A outer s H Ex f c' Nn hr => by have hu := hr.units; exact (j_callH h_middle_line (hr.mono (by decide)) (takes_of rfl rfl rfl (E₁ := _) rfl) (ja_cons (j_bin o_mul (j_lst (ja_cons (j_tup (ja_cons j_int (ja_cons j_int ja_nil))) ja_nil)) j_int) ja_nil)))))) (js_one (js_frz (is := [3]) (js_ret (j_cmp (o_eqA hu) (jv 3) (j_lst (ja_cons (j_lst (ja_cons (j_tup (ja_cons j_int (ja_cons j_int ja_nil))) ja_nil)) (ja_cons (j_tup (ja_cons j_str (ja_cons j_int ja_nil))) (ja_cons (j_tup (ja_cons j_str (ja_cons j_int ja_nil))) (ja_cons (j_tup (ja_cons j_str (ja_cons j_non ja_nil))) ja_nil)))))))))))))))
end
theorem facts {P : Program} {w : World} {K : PySem.W.Frag} {h : Heap} {mg : Str → Option Value} (X : K.In h) (G : h.Ns mainGlobals mg) (c : SaysX fa xs fn K) (TB : Tabs h K mkrs) :
    mg "law" = some (.ref (He.ga K "law")) ∧ ∃ fd : FuncData, (∀ (s : Shared) (v : Value), BindsTo s fd ⟨[v], []⟩ [("_law_script", v)]) ∧ ∀ base : Heap, (∀ x ∈ mkrs, LamX.TabB base mg (cdA K x) (tA K x)) → FJ P w K mg base (He.ga K "Ratio") 12 (He.ga K "law") fd ["_law_script"] F_law_k30 := by
  obtain ⟨fd_w_source, Q_w_source⟩ := c.def_ 0 (d := D_w_source) rfl
  obtain ⟨fd_w_next, Q_w_next⟩ := c.def_ 1 (d := D_w_next) rfl
  obtain ⟨fd_w_pick, Q_w_pick⟩ := c.def_ 2 (d := D_w_pick) rfl
  obtain ⟨fd_w_low, Q_w_low⟩ := c.def_ 3 (d := D_w_low) rfl
  obtain ⟨fd_w_drawn, Q_w_drawn⟩ := c.def_ 4 (d := D_w_drawn) rfl
  obtain ⟨fd_w_dots, Q_w_dots⟩ := c.def_ 5 (d := D_w_dots) rfl
  obtain ⟨fd_is_integer, Q_is_integer⟩ := c.def_ 6 (d := D_is_integer) rfl
  obtain ⟨fd_common_divisor, Q_common_divisor⟩ := c.def_ 7 (d := D_common_divisor) rfl
  obtain ⟨fd_Ratio___init__, Q_Ratio___init__⟩ := c.def_ 8 (d := D_Ratio___init__) rfl
  obtain ⟨fd_w_given, Q_w_given⟩ := c.def_ 9 (d := D_w_given) rfl
  obtain ⟨fd_w_paired, Q_w_paired⟩ := c.def_ 10 (d := D_w_paired) rfl
  obtain ⟨fd_w_minus, Q_w_minus⟩ := c.def_ 11 (d := D_w_minus) rfl
  obtain ⟨fd_w_through, Q_w_through⟩ := c.def_ 12 (d := D_w_through) rfl
  obtain ⟨fd_w_below, Q_w_below⟩ := c.def_ 13 (d := D_w_below) rfl
  obtain ⟨fd_w_sorted, Q_w_sorted⟩ := c.def_ 14 (d := D_w_sorted) rfl
  obtain ⟨fd_w_plus, Q_w_plus⟩ := c.def_ 15 (d := D_w_plus) rfl
  obtain ⟨fd_w_times, Q_w_times⟩ := c.def_ 16 (d := D_w_times) rfl
  obtain ⟨fd_w_middle, Q_w_middle⟩ := c.def_ 17 (d := D_w_middle) rfl
  obtain ⟨fd_w_half, Q_w_half⟩ := c.def_ 18 (d := D_w_half) rfl
  obtain ⟨fd_w_due, Q_w_due⟩ := c.def_ 19 (d := D_w_due) rfl
  obtain ⟨fd_Ratio_bottom, Q_Ratio_bottom⟩ := c.def_ 20 (d := D_Ratio_bottom) rfl
  obtain ⟨fd_Ratio_top, Q_Ratio_top⟩ := c.def_ 21 (d := D_Ratio_top) rfl
  obtain ⟨fd_w_taken, Q_w_taken⟩ := c.def_ 22 (d := D_w_taken) rfl
  obtain ⟨fd_w_kept, Q_w_kept⟩ := c.def_ 23 (d := D_w_kept) rfl
  obtain ⟨fd_is_row, Q_is_row⟩ := c.def_ 24 (d := D_is_row) rfl
  obtain ⟨fd_is_number, Q_is_number⟩ := c.def_ 25 (d := D_is_number) rfl
  obtain ⟨fd_is_pair, Q_is_pair⟩ := c.def_ 26 (d := D_is_pair) rfl
  obtain ⟨fd_ratio_of, Q_ratio_of⟩ := c.def_ 27 (d := D_ratio_of) rfl
  obtain ⟨fd_need_pairs, Q_need_pairs⟩ := c.def_ 28 (d := D_need_pairs) rfl
  obtain ⟨fd_need_items, Q_need_items⟩ := c.def_ 29 (d := D_need_items) rfl
  obtain ⟨fd_Ratio___eq__, Q_Ratio___eq__⟩ := c.def_ 30 (d := D_Ratio___eq__) rfl
  obtain ⟨fd_Ratio___sub__, Q_Ratio___sub__⟩ := c.def_ 31 (d := D_Ratio___sub__) rfl
  obtain ⟨fd_need_number, Q_need_number⟩ := c.def_ 32 (d := D_need_number) rfl
  obtain ⟨fd_Ratio_over, Q_Ratio_over⟩ := c.def_ 33 (d := D_Ratio_over) rfl
  obtain ⟨fd_is_less, Q_is_less⟩ := c.def_ 34 (d := D_is_less) rfl
  obtain ⟨fd_joined, Q_joined⟩ := c.def_ 35 (d := D_joined) rfl
  obtain ⟨fd_arranged, Q_arranged⟩ := c.def_ 36 (d := D_arranged) rfl
  obtain ⟨fd_common, Q_common⟩ := c.def_ 37 (d := D_common) rfl
  obtain ⟨fd_total, Q_total⟩ := c.def_ 38 (d := D_total) rfl
  obtain ⟨fd_mean_of, Q_mean_of⟩ := c.def_ 39 (d := D_mean_of) rfl
  obtain ⟨fd_median_of, Q_median_of⟩ := c.def_ 40 (d := D_median_of) rfl
  obtain ⟨fd_Line___init__, Q_Line___init__⟩ := c.def_ 41 (d := D_Line___init__) rfl
  obtain ⟨fd_Ratio___mul__, Q_Ratio___mul__⟩ := c.def_ 42 (d := D_Ratio___mul__) rfl
  obtain ⟨fd_ordered, Q_ordered⟩ := c.def_ 43 (d := D_ordered) rfl
  obtain ⟨fd_middle_line, Q_middle_line⟩ := c.def_ 44 (d := D_middle_line) rfl
  obtain ⟨fd_Line_height, Q_Line_height⟩ := c.def_ 45 (d := D_Line_height) rfl
  obtain ⟨fd_Line_slope, Q_Line_slope⟩ := c.def_ 46 (d := D_Line_slope) rfl
  obtain ⟨fd_w_seen, Q_w_seen⟩ := c.def_ 47 (d := D_w_seen) rfl
  obtain ⟨fd_w_word, Q_w_word⟩ := c.def_ 48 (d := D_w_word) rfl
  obtain ⟨fd_w_told, Q_w_told⟩ := c.def_ 49 (d := D_w_told) rfl
  obtain ⟨fd_w_mixed, Q_w_mixed⟩ := c.def_ 50 (d := D_w_mixed) rfl
  obtain ⟨fd_w_right, Q_w_right⟩ := c.def_ 51 (d := D_w_right) rfl
  obtain ⟨fd_w_moved_right, Q_w_moved_right⟩ := c.def_ 52 (d := D_w_moved_right) rfl
  obtain ⟨fd_law, Q_law⟩ := c.def_ 53 (d := D_law) rfl
  have C0 := He.cls_ok (c.fact 65 (f := .cls "Ratio") rfl)
  have T0 : ClsR K (He.ga K "Ratio") := ⟨C0, He.noat_ok (c.fact 66 (f := .noat "Ratio" "own_top") rfl), He.noat_ok (c.fact 67 (f := .noat "Ratio" "own_bottom") rfl)⟩
  have E : Fs K mg (He.ga K "Ratio") := ⟨He.free_ok X G (c.fact 74 (f := .free "abs") rfl), He.free_ok X G (c.fact 75 (f := .free "bool") rfl), He.free_ok X G (c.fact 76 (f := .free "enumerate") rfl), He.free_ok X G (c.fact 77 (f := .free "int") rfl), He.free_ok X G (c.fact 78 (f := .free "isinstance") rfl), He.free_ok X G (c.fact 79 (f := .free "len") rfl), He.free_ok X G (c.fact 80 (f := .free "list") rfl), He.free_ok X G (c.fact 81 (f := .free "min") rfl), He.free_ok X G (c.fact 82 (f := .free "range") rfl), He.free_ok X G (c.fact 83 (f := .free "sorted") rfl), He.free_ok X G (c.fact 84 (f := .free "sum") rfl), He.free_ok X G (c.fact 85 (f := .free "tuple") rfl), He.glo_ok X G (c.fact 64 (f := .glo "Ratio") rfl), T0, isiR_ok (c.chk 0 (x := kisiB) rfl) (clsI_ok C0 (c.chk 1 (x := fun K => clsIB K (He.ga K "Ratio")) rfl)) (c.chk 2 (x := fun K => isiB K (He.ga K "Ratio")) rfl), fun C hC => by rw [List.mem_singleton.mp hC]; exact ⟨C0, T0.top⟩, fun C hC => by rw [List.mem_singleton.mp hC]; exact ⟨C0, T0.bot⟩, fun C hC => by rw [List.mem_singleton.mp hC]; exact ⟨He.cls_ok (c.fact 70 (f := .cls "Line") rfl), He.noat_ok (c.fact 71 (f := .noat "Line" "own_height") rfl)⟩, fun C hC => by rw [List.mem_singleton.mp hC]; exact ⟨He.cls_ok (c.fact 70 (f := .cls "Line") rfl), He.noat_ok (c.fact 72 (f := .noat "Line" "own_slope") rfl)⟩, He.int_ok X G (c.fact 86 (f := .int "MOST_ITEMS" 1000) rfl), He.int_ok X G (c.fact 87 (f := .int "MOST_MIDDLE" 40) rfl)⟩
  refine ⟨He.glo_ok X G (c.fact 43 (f := .glo "law") rfl), fd_law, fun s v => (FunD.bindsA (ps := ["_law_script"]) Q_law fun _ _ _ _ _ _ us hl => match us, hl with | [_], _ => rfl) s [v] rfl, fun base tb => ?_⟩
  obtain ⟨fd_BadPairs___init__, Q_BadPairs___init__⟩ := c.def_ 54 (d := D_BadPairs___init__) rfl
  obtain ⟨ds_BadPairs___init__, rD_BadPairs___init__, b_BadPairs___init__⟩ := FunD.binds1 (ps := ["self", "index"]) Q_BadPairs___init__ 2 1 (by simp [DefX.dvs, D_BadPairs___init__]) rfl fun _ _ _ _ _ _ _ us its hu hi => match us, its, hu, hi with | [_, _], [_], _, _ => ⟨_, rfl, rfl⟩
  cases rD_BadPairs___init__
  have h_exc_BadPairs : HasE P w K mg base "BadPairs" "index" .ve := hasE_of (He.glo_ok X G (c.fact 45 (f := .glo "BadPairs") rfl)) (c.chk 3 (x := oxB .ve "BadPairs" "index") rfl) Q_BadPairs___init__ b_BadPairs___init__ sc_BadPairs___init__ rfl
  have h_exc_Empty : HasE0 K mg "Empty" .le := hasE0_of (He.glo_ok X G (c.fact 46 (f := .glo "Empty") rfl)) (c.chk 4 (x := ex0B .le "Empty") rfl)
  obtain ⟨fd_BadNumber___init__, Q_BadNumber___init__⟩ := c.def_ 55 (d := D_BadNumber___init__) rfl
  have b_BadNumber___init__ : Binds K fd_BadNumber___init__ ["self", "value"] [] := (FunD.bindsN (ps := ["self", "value"]) Q_BadNumber___init__ fun _ _ _ _ _ _ us hl => match us, hl with | [_, _], _ => rfl)
  have h_exc_BadNumber : HasE P w K mg base "BadNumber" "value" .ve := hasE_of (He.glo_ok X G (c.fact 47 (f := .glo "BadNumber") rfl)) (c.chk 5 (x := oxB .ve "BadNumber" "value") rfl) Q_BadNumber___init__ b_BadNumber___init__ sc_BadNumber___init__ rfl
  obtain ⟨fd_TooMany___init__, Q_TooMany___init__⟩ := c.def_ 56 (d := D_TooMany___init__) rfl
  have b_TooMany___init__ : Binds K fd_TooMany___init__ ["self", "most"] [] := (FunD.bindsN (ps := ["self", "most"]) Q_TooMany___init__ fun _ _ _ _ _ _ us hl => match us, hl with | [_, _], _ => rfl)
  have h_exc_TooMany : HasE P w K mg base "TooMany" "most" .ae := hasE_of (He.glo_ok X G (c.fact 48 (f := .glo "TooMany") rfl)) (c.chk 6 (x := oxB .ae "TooMany" "most") rfl) Q_TooMany___init__ b_TooMany___init__ sc_TooMany___init__ rfl
  have h_exc_NoSpread : HasE0 K mg "NoSpread" .ae := hasE0_of (He.glo_ok X G (c.fact 49 (f := .glo "NoSpread") rfl)) (c.chk 7 (x := ex0B .ae "NoSpread") rfl)
  have h_isx_BadShare : HasIX K mg ["BadShare"] ["BadInput", "Absent", "Undefined", "BadNumber", "BadSample", "BadWeights", "BadPairs", "BadShare", "BadRule", "BadAmount", "BadEdges", "BadSummary", "Empty", "TooFew", "NotThere", "DividedByZero", "NoSpread", "Impossible", "Unbounded", "TooMany"] ["BadShare"] := hasIX_of (fun n hn => by rw [List.mem_singleton.mp hn]; exact He.glo_ok X G (c.fact 50 (f := .glo "BadShare") rfl)) (c.chk 8 (x := isxB ["BadShare"] ["BadInput", "Absent", "Undefined", "BadNumber", "BadSample", "BadWeights", "BadPairs", "BadShare", "BadRule", "BadAmount", "BadEdges", "BadSummary", "Empty", "TooFew", "NotThere", "DividedByZero", "NoSpread", "Impossible", "Unbounded", "TooMany"] ["BadShare"]) rfl)
  have h_isx_BadNumber : HasIX K mg ["BadNumber"] ["BadInput", "Absent", "Undefined", "BadNumber", "BadSample", "BadWeights", "BadPairs", "BadShare", "BadRule", "BadAmount", "BadEdges", "BadSummary", "Empty", "TooFew", "NotThere", "DividedByZero", "NoSpread", "Impossible", "Unbounded", "TooMany"] ["BadNumber"] := hasIX_of (fun n hn => by rw [List.mem_singleton.mp hn]; exact He.glo_ok X G (c.fact 47 (f := .glo "BadNumber") rfl)) (c.chk 9 (x := isxB ["BadNumber"] ["BadInput", "Absent", "Undefined", "BadNumber", "BadSample", "BadWeights", "BadPairs", "BadShare", "BadRule", "BadAmount", "BadEdges", "BadSummary", "Empty", "TooFew", "NotThere", "DividedByZero", "NoSpread", "Impossible", "Unbounded", "TooMany"] ["BadNumber"]) rfl)
  have h_isx_BadAmount : HasIX K mg ["BadAmount"] ["BadInput", "Absent", "Undefined", "BadNumber", "BadSample", "BadWeights", "BadPairs", "BadShare", "BadRule", "BadAmount", "BadEdges", "BadSummary", "Empty", "TooFew", "NotThere", "DividedByZero", "NoSpread", "Impossible", "Unbounded", "TooMany"] ["BadAmount"] := hasIX_of (fun n hn => by rw [List.mem_singleton.mp hn]; exact He.glo_ok X G (c.fact 51 (f := .glo "BadAmount") rfl)) (c.chk 10 (x := isxB ["BadAmount"] ["BadInput", "Absent", "Undefined", "BadNumber", "BadSample", "BadWeights", "BadPairs", "BadShare", "BadRule", "BadAmount", "BadEdges", "BadSummary", "Empty", "TooFew", "NotThere", "DividedByZero", "NoSpread", "Impossible", "Unbounded", "TooMany"] ["BadAmount"]) rfl)
  have h_isx_BadRule : HasIX K mg ["BadRule"] ["BadInput", "Absent", "Undefined", "BadNumber", "BadSample", "BadWeights", "BadPairs", "BadShare", "BadRule", "BadAmount", "BadEdges", "BadSummary", "Empty", "TooFew", "NotThere", "DividedByZero", "NoSpread", "Impossible", "Unbounded", "TooMany"] ["BadRule"] := hasIX_of (fun n hn => by rw [List.mem_singleton.mp hn]; exact He.glo_ok X G (c.fact 52 (f := .glo "BadRule") rfl)) (c.chk 11 (x := isxB ["BadRule"] ["BadInput", "Absent", "Undefined", "BadNumber", "BadSample", "BadWeights", "BadPairs", "BadShare", "BadRule", "BadAmount", "BadEdges", "BadSummary", "Empty", "TooFew", "NotThere", "DividedByZero", "NoSpread", "Impossible", "Unbounded", "TooMany"] ["BadRule"]) rfl)
  have h_isx_BadSummary : HasIX K mg ["BadSummary"] ["BadInput", "Absent", "Undefined", "BadNumber", "BadSample", "BadWeights", "BadPairs", "BadShare", "BadRule", "BadAmount", "BadEdges", "BadSummary", "Empty", "TooFew", "NotThere", "DividedByZero", "NoSpread", "Impossible", "Unbounded", "TooMany"] ["BadSummary"] := hasIX_of (fun n hn => by rw [List.mem_singleton.mp hn]; exact He.glo_ok X G (c.fact 53 (f := .glo "BadSummary") rfl)) (c.chk 12 (x := isxB ["BadSummary"] ["BadInput", "Absent", "Undefined", "BadNumber", "BadSample", "BadWeights", "BadPairs", "BadShare", "BadRule", "BadAmount", "BadEdges", "BadSummary", "Empty", "TooFew", "NotThere", "DividedByZero", "NoSpread", "Impossible", "Unbounded", "TooMany"] ["BadSummary"]) rfl)
  have h_ef_value : HasEF K ["BadNumber", "BadShare", "BadRule", "BadAmount", "BadSummary"] "value" := hasEF_of (c.chk 13 (x := hefB ["BadNumber", "BadShare", "BadRule", "BadAmount", "BadSummary"] "value") rfl)
  have h_isx_BadWeights : HasIX K mg ["BadWeights"] ["BadInput", "Absent", "Undefined", "BadNumber", "BadSample", "BadWeights", "BadPairs", "BadShare", "BadRule", "BadAmount", "BadEdges", "BadSummary", "Empty", "TooFew", "NotThere", "DividedByZero", "NoSpread", "Impossible", "Unbounded", "TooMany"] ["BadWeights"] := hasIX_of (fun n hn => by rw [List.mem_singleton.mp hn]; exact He.glo_ok X G (c.fact 54 (f := .glo "BadWeights") rfl)) (c.chk 14 (x := isxB ["BadWeights"] ["BadInput", "Absent", "Undefined", "BadNumber", "BadSample", "BadWeights", "BadPairs", "BadShare", "BadRule", "BadAmount", "BadEdges", "BadSummary", "Empty", "TooFew", "NotThere", "DividedByZero", "NoSpread", "Impossible", "Unbounded", "TooMany"] ["BadWeights"]) rfl)
  have h_isx_BadSample : HasIX K mg ["BadSample"] ["BadInput", "Absent", "Undefined", "BadNumber", "BadSample", "BadWeights", "BadPairs", "BadShare", "BadRule", "BadAmount", "BadEdges", "BadSummary", "Empty", "TooFew", "NotThere", "DividedByZero", "NoSpread", "Impossible", "Unbounded", "TooMany"] ["BadSample"] := hasIX_of (fun n hn => by rw [List.mem_singleton.mp hn]; exact He.glo_ok X G (c.fact 55 (f := .glo "BadSample") rfl)) (c.chk 15 (x := isxB ["BadSample"] ["BadInput", "Absent", "Undefined", "BadNumber", "BadSample", "BadWeights", "BadPairs", "BadShare", "BadRule", "BadAmount", "BadEdges", "BadSummary", "Empty", "TooFew", "NotThere", "DividedByZero", "NoSpread", "Impossible", "Unbounded", "TooMany"] ["BadSample"]) rfl)
  have h_isx_BadEdges : HasIX K mg ["BadEdges"] ["BadInput", "Absent", "Undefined", "BadNumber", "BadSample", "BadWeights", "BadPairs", "BadShare", "BadRule", "BadAmount", "BadEdges", "BadSummary", "Empty", "TooFew", "NotThere", "DividedByZero", "NoSpread", "Impossible", "Unbounded", "TooMany"] ["BadEdges"] := hasIX_of (fun n hn => by rw [List.mem_singleton.mp hn]; exact He.glo_ok X G (c.fact 56 (f := .glo "BadEdges") rfl)) (c.chk 16 (x := isxB ["BadEdges"] ["BadInput", "Absent", "Undefined", "BadNumber", "BadSample", "BadWeights", "BadPairs", "BadShare", "BadRule", "BadAmount", "BadEdges", "BadSummary", "Empty", "TooFew", "NotThere", "DividedByZero", "NoSpread", "Impossible", "Unbounded", "TooMany"] ["BadEdges"]) rfl)
  have h_isx_BadPairs : HasIX K mg ["BadPairs"] ["BadInput", "Absent", "Undefined", "BadNumber", "BadSample", "BadWeights", "BadPairs", "BadShare", "BadRule", "BadAmount", "BadEdges", "BadSummary", "Empty", "TooFew", "NotThere", "DividedByZero", "NoSpread", "Impossible", "Unbounded", "TooMany"] ["BadPairs"] := hasIX_of (fun n hn => by rw [List.mem_singleton.mp hn]; exact He.glo_ok X G (c.fact 45 (f := .glo "BadPairs") rfl)) (c.chk 17 (x := isxB ["BadPairs"] ["BadInput", "Absent", "Undefined", "BadNumber", "BadSample", "BadWeights", "BadPairs", "BadShare", "BadRule", "BadAmount", "BadEdges", "BadSummary", "Empty", "TooFew", "NotThere", "DividedByZero", "NoSpread", "Impossible", "Unbounded", "TooMany"] ["BadPairs"]) rfl)
  have h_ef_index : HasEF K ["BadSample", "BadWeights", "BadPairs", "BadEdges"] "index" := hasEF_of (c.chk 18 (x := hefB ["BadSample", "BadWeights", "BadPairs", "BadEdges"] "index") rfl)
  have h_isx_TooFew : HasIX K mg ["TooFew"] ["BadInput", "Absent", "Undefined", "BadNumber", "BadSample", "BadWeights", "BadPairs", "BadShare", "BadRule", "BadAmount", "BadEdges", "BadSummary", "Empty", "TooFew", "NotThere", "DividedByZero", "NoSpread", "Impossible", "Unbounded", "TooMany"] ["TooFew"] := hasIX_of (fun n hn => by rw [List.mem_singleton.mp hn]; exact He.glo_ok X G (c.fact 57 (f := .glo "TooFew") rfl)) (c.chk 19 (x := isxB ["TooFew"] ["BadInput", "Absent", "Undefined", "BadNumber", "BadSample", "BadWeights", "BadPairs", "BadShare", "BadRule", "BadAmount", "BadEdges", "BadSummary", "Empty", "TooFew", "NotThere", "DividedByZero", "NoSpread", "Impossible", "Unbounded", "TooMany"] ["TooFew"]) rfl)
  have h_ef_needed : HasEF K ["TooFew"] "needed" := hasEF_of (c.chk 20 (x := hefB ["TooFew"] "needed") rfl)
  have h_isx_NotThere_TooMany : HasIX K mg ["NotThere", "TooMany"] ["BadInput", "Absent", "Undefined", "BadNumber", "BadSample", "BadWeights", "BadPairs", "BadShare", "BadRule", "BadAmount", "BadEdges", "BadSummary", "Empty", "TooFew", "NotThere", "DividedByZero", "NoSpread", "Impossible", "Unbounded", "TooMany"] ["NotThere", "TooMany"] := hasIX_of (fun n hn => by simp only [List.mem_cons, List.not_mem_nil, or_false] at hn; rcases hn with rfl | rfl; exact He.glo_ok X G (c.fact 58 (f := .glo "NotThere") rfl); exact He.glo_ok X G (c.fact 48 (f := .glo "TooMany") rfl)) (c.chk 21 (x := isxB ["NotThere", "TooMany"] ["BadInput", "Absent", "Undefined", "BadNumber", "BadSample", "BadWeights", "BadPairs", "BadShare", "BadRule", "BadAmount", "BadEdges", "BadSummary", "Empty", "TooFew", "NotThere", "DividedByZero", "NoSpread", "Impossible", "Unbounded", "TooMany"] ["NotThere", "TooMany"]) rfl)
  have h_isx_NotThere : HasIX K mg ["NotThere"] ["BadInput", "Absent", "Undefined", "BadNumber", "BadSample", "BadWeights", "BadPairs", "BadShare", "BadRule", "BadAmount", "BadEdges", "BadSummary", "Empty", "TooFew", "NotThere", "DividedByZero", "NoSpread", "Impossible", "Unbounded", "TooMany"] ["NotThere"] := hasIX_of (fun n hn => by rw [List.mem_singleton.mp hn]; exact He.glo_ok X G (c.fact 58 (f := .glo "NotThere") rfl)) (c.chk 22 (x := isxB ["NotThere"] ["BadInput", "Absent", "Undefined", "BadNumber", "BadSample", "BadWeights", "BadPairs", "BadShare", "BadRule", "BadAmount", "BadEdges", "BadSummary", "Empty", "TooFew", "NotThere", "DividedByZero", "NoSpread", "Impossible", "Unbounded", "TooMany"] ["NotThere"]) rfl)
  have h_ef_item : HasEF K ["NotThere"] "item" := hasEF_of (c.chk 23 (x := hefB ["NotThere"] "item") rfl)
  have h_ef_most : HasEF K ["TooMany"] "most" := hasEF_of (c.chk 24 (x := hefB ["TooMany"] "most") rfl)
  have h_isx_NoSpread : HasIX K mg ["NoSpread"] ["BadInput", "Absent", "Undefined", "BadNumber", "BadSample", "BadWeights", "BadPairs", "BadShare", "BadRule", "BadAmount", "BadEdges", "BadSummary", "Empty", "TooFew", "NotThere", "DividedByZero", "NoSpread", "Impossible", "Unbounded", "TooMany"] ["NoSpread"] := hasIX_of (fun n hn => by rw [List.mem_singleton.mp hn]; exact He.glo_ok X G (c.fact 49 (f := .glo "NoSpread") rfl)) (c.chk 25 (x := isxB ["NoSpread"] ["BadInput", "Absent", "Undefined", "BadNumber", "BadSample", "BadWeights", "BadPairs", "BadShare", "BadRule", "BadAmount", "BadEdges", "BadSummary", "Empty", "TooFew", "NotThere", "DividedByZero", "NoSpread", "Impossible", "Unbounded", "TooMany"] ["NoSpread"]) rfl)
  have h_isx_Empty : HasIX K mg ["Empty"] ["BadInput", "Absent", "Undefined", "BadNumber", "BadSample", "BadWeights", "BadPairs", "BadShare", "BadRule", "BadAmount", "BadEdges", "BadSummary", "Empty", "TooFew", "NotThere", "DividedByZero", "NoSpread", "Impossible", "Unbounded", "TooMany"] ["Empty"] := hasIX_of (fun n hn => by rw [List.mem_singleton.mp hn]; exact He.glo_ok X G (c.fact 46 (f := .glo "Empty") rfl)) (c.chk 26 (x := isxB ["Empty"] ["BadInput", "Absent", "Undefined", "BadNumber", "BadSample", "BadWeights", "BadPairs", "BadShare", "BadRule", "BadAmount", "BadEdges", "BadSummary", "Empty", "TooFew", "NotThere", "DividedByZero", "NoSpread", "Impossible", "Unbounded", "TooMany"] ["Empty"]) rfl)
  have h_isx_Unbounded : HasIX K mg ["Unbounded"] ["BadInput", "Absent", "Undefined", "BadNumber", "BadSample", "BadWeights", "BadPairs", "BadShare", "BadRule", "BadAmount", "BadEdges", "BadSummary", "Empty", "TooFew", "NotThere", "DividedByZero", "NoSpread", "Impossible", "Unbounded", "TooMany"] ["Unbounded"] := hasIX_of (fun n hn => by rw [List.mem_singleton.mp hn]; exact He.glo_ok X G (c.fact 59 (f := .glo "Unbounded") rfl)) (c.chk 27 (x := isxB ["Unbounded"] ["BadInput", "Absent", "Undefined", "BadNumber", "BadSample", "BadWeights", "BadPairs", "BadShare", "BadRule", "BadAmount", "BadEdges", "BadSummary", "Empty", "TooFew", "NotThere", "DividedByZero", "NoSpread", "Impossible", "Unbounded", "TooMany"] ["Unbounded"]) rfl)
  have h_isx_Impossible : HasIX K mg ["Impossible"] ["BadInput", "Absent", "Undefined", "BadNumber", "BadSample", "BadWeights", "BadPairs", "BadShare", "BadRule", "BadAmount", "BadEdges", "BadSummary", "Empty", "TooFew", "NotThere", "DividedByZero", "NoSpread", "Impossible", "Unbounded", "TooMany"] ["Impossible"] := hasIX_of (fun n hn => by rw [List.mem_singleton.mp hn]; exact He.glo_ok X G (c.fact 60 (f := .glo "Impossible") rfl)) (c.chk 28 (x := isxB ["Impossible"] ["BadInput", "Absent", "Undefined", "BadNumber", "BadSample", "BadWeights", "BadPairs", "BadShare", "BadRule", "BadAmount", "BadEdges", "BadSummary", "Empty", "TooFew", "NotThere", "DividedByZero", "NoSpread", "Impossible", "Unbounded", "TooMany"] ["Impossible"]) rfl)
  have h_try_BadInput_Absent_Undefined : HasT K mg ["BadInput", "Absent", "Undefined"] ["BadInput", "Absent", "Undefined", "BadNumber", "BadSample", "BadWeights", "BadPairs", "BadShare", "BadRule", "BadAmount", "BadEdges", "BadSummary", "Empty", "TooFew", "NotThere", "DividedByZero", "NoSpread", "Impossible", "Unbounded", "TooMany"] := hasT_of (fun n hn => by simp only [List.mem_cons, List.not_mem_nil, or_false] at hn; rcases hn with rfl | rfl | rfl; exact He.glo_ok X G (c.fact 61 (f := .glo "BadInput") rfl); exact He.glo_ok X G (c.fact 62 (f := .glo "Absent") rfl); exact He.glo_ok X G (c.fact 63 (f := .glo "Undefined") rfl)) (c.chk 29 (x := htB ["BadInput", "Absent", "Undefined"] ["BadInput", "Absent", "Undefined", "BadNumber", "BadSample", "BadWeights", "BadPairs", "BadShare", "BadRule", "BadAmount", "BadEdges", "BadSummary", "Empty", "TooFew", "NotThere", "DividedByZero", "NoSpread", "Impossible", "Unbounded", "TooMany"]) rfl)
  have r_w_source : FJ P w K mg base (He.ga K "Ratio") 1 _ fd_w_source ["_law_script", "_law_k"] (runBody 3 d_w_source) := (ok_w_source E  Q_w_source)
  have b_w_source : Binds K fd_w_source ["_law_script", "_law_k"] [] := (FunD.bindsN (ps := ["_law_script", "_law_k"]) Q_w_source fun _ _ _ _ _ _ us hl => match us, hl with | [_, _], _ => rfl)
  have h_w_source : Has P w K mg base (He.ga K "Ratio") "_law_source" 1 ["_law_script", "_law_k"] F_w_source := ⟨_, fd_w_source, He.glo_ok X G (c.fact 0 (f := .glo "_law_source") rfl), Q_w_source.kp, b_w_source, r_w_source⟩
  have r_w_next : FJ P w K mg base (He.ga K "Ratio") 1 _ fd_w_next ["_law_source_here", "_law_many"] (runBody 5 d_w_next) := (ok_w_next E  Q_w_next)
  have b_w_next : Binds K fd_w_next ["_law_source_here", "_law_many"] [] := (FunD.bindsN (ps := ["_law_source_here", "_law_many"]) Q_w_next fun _ _ _ _ _ _ us hl => match us, hl with | [_, _], _ => rfl)
  have h_w_next : Has P w K mg base (He.ga K "Ratio") "_law_next" 1 ["_law_source_here", "_law_many"] F_w_next := ⟨_, fd_w_next, He.glo_ok X G (c.fact 1 (f := .glo "_law_next") rfl), Q_w_next.kp, b_w_next, r_w_next⟩
  have r_w_pick : FJ P w K mg base (He.ga K "Ratio") 2 _ fd_w_pick ["_law_source_here", "_law_items"] (runBody 2 d_w_pick) := (ok_w_pick E h_w_next Q_w_pick)
  have b_w_pick : Binds K fd_w_pick ["_law_source_here", "_law_items"] [] := (FunD.bindsN (ps := ["_law_source_here", "_law_items"]) Q_w_pick fun _ _ _ _ _ _ us hl => match us, hl with | [_, _], _ => rfl)
  have h_w_pick : Has P w K mg base (He.ga K "Ratio") "_law_pick" 2 ["_law_source_here", "_law_items"] F_w_pick := ⟨_, fd_w_pick, He.glo_ok X G (c.fact 2 (f := .glo "_law_pick") rfl), Q_w_pick.kp, b_w_pick, r_w_pick⟩
  have r_w_low : FJ P w K mg base (He.ga K "Ratio") 1 _ fd_w_low ["_law_top", "_law_bottom"] (runBody 4 d_w_low) := (ok_w_low E  Q_w_low)
  have b_w_low : Binds K fd_w_low ["_law_top", "_law_bottom"] [] := (FunD.bindsN (ps := ["_law_top", "_law_bottom"]) Q_w_low fun _ _ _ _ _ _ us hl => match us, hl with | [_, _], _ => rfl)
  have h_w_low : Has P w K mg base (He.ga K "Ratio") "_law_low" 1 ["_law_top", "_law_bottom"] F_w_low := ⟨_, fd_w_low, He.glo_ok X G (c.fact 3 (f := .glo "_law_low") rfl), Q_w_low.kp, b_w_low, r_w_low⟩
  have r_w_drawn : FJ P w K mg base (He.ga K "Ratio") 2 _ fd_w_drawn ["_law_source_here"] (runBody 2 d_w_drawn) := (ok_w_drawn E h_w_next h_w_low Q_w_drawn)
  have b_w_drawn : Binds K fd_w_drawn ["_law_source_here"] [] := (FunD.bindsN (ps := ["_law_source_here"]) Q_w_drawn fun _ _ _ _ _ _ us hl => match us, hl with | [_], _ => rfl)
  have h_w_drawn : Has P w K mg base (He.ga K "Ratio") "_law_drawn" 2 ["_law_source_here"] F_w_drawn := ⟨_, fd_w_drawn, He.glo_ok X G (c.fact 4 (f := .glo "_law_drawn") rfl), Q_w_drawn.kp, b_w_drawn, r_w_drawn⟩
  have r_w_dots : FJ P w K mg base (He.ga K "Ratio") 3 _ fd_w_dots ["_law_source_here", "_law_least", "_law_most"] (runBody 7 d_w_dots) := (ok_w_dots E h_w_next h_w_pick h_w_drawn Q_w_dots)
  have b_w_dots : Binds K fd_w_dots ["_law_source_here", "_law_least", "_law_most"] [] := (FunD.bindsN (ps := ["_law_source_here", "_law_least", "_law_most"]) Q_w_dots fun _ _ _ _ _ _ us hl => match us, hl with | [_, _, _], _ => rfl)
  have h_w_dots : Has P w K mg base (He.ga K "Ratio") "_law_dots" 3 ["_law_source_here", "_law_least", "_law_most"] F_w_dots := ⟨_, fd_w_dots, He.glo_ok X G (c.fact 5 (f := .glo "_law_dots") rfl), Q_w_dots.kp, b_w_dots, r_w_dots⟩
  have r_is_integer : FJ P w K mg base (He.ga K "Ratio") 1 _ fd_is_integer ["value"] (runBody 1 d_is_integer) := (ok_is_integer E  Q_is_integer)
  have b_is_integer : Binds K fd_is_integer ["value"] [] := (FunD.bindsN (ps := ["value"]) Q_is_integer fun _ _ _ _ _ _ us hl => match us, hl with | [_], _ => rfl)
  have h_is_integer : Has P w K mg base (He.ga K "Ratio") "is_integer" 1 ["value"] F_is_integer := ⟨_, fd_is_integer, He.glo_ok X G (c.fact 6 (f := .glo "is_integer") rfl), Q_is_integer.kp, b_is_integer, r_is_integer⟩
  have r_common_divisor : FJ P w K mg base (He.ga K "Ratio") 1 _ fd_common_divisor ["one", "other"] (runBody 2 d_common_divisor) := (ok_common_divisor E  Q_common_divisor)
  have b_common_divisor : Binds K fd_common_divisor ["one", "other"] [] := (FunD.bindsN (ps := ["one", "other"]) Q_common_divisor fun _ _ _ _ _ _ us hl => match us, hl with | [_, _], _ => rfl)
  have h_common_divisor : Has P w K mg base (He.ga K "Ratio") "common_divisor" 1 ["one", "other"] F_common_divisor := ⟨_, fd_common_divisor, He.glo_ok X G (c.fact 7 (f := .glo "common_divisor") rfl), Q_common_divisor.kp, b_common_divisor, r_common_divisor⟩
  have r_Ratio___init__ : FJ P w K mg base (He.ga K "Ratio") 2 _ fd_Ratio___init__ ["self", "top", "bottom"] (runBody 5 (d_Ratio___init__ (He.ga K "Ratio"))) := (ok_Ratio___init__ E h_is_integer h_common_divisor Q_Ratio___init__)
  obtain ⟨ds, rD, b1⟩ := FunD.binds1 (ps := ["self", "top", "bottom"]) Q_Ratio___init__ 2 0 (by simp [DefX.dvs, D_Ratio___init__]) rfl fun _ _ _ _ _ _ _ us its hu hi => match us, its, hu, hi with | [_, _], [_], _, _ => ⟨_, rfl, rfl⟩
  obtain ⟨one, hds, r1⟩ := vals1 rD
  subst hds
  obtain ⟨ds0, rD0, b0⟩ := FunD.binds1 (ps := ["self", "top", "bottom"]) Q_Ratio___init__ 3 1 (by simp [DefX.dvs, D_Ratio___init__]) rfl fun _ _ _ _ _ _ _ us its hu hi => match us, its, hu, hi with | [_, _, _], [_], _, _ => ⟨_, rfl, rfl⟩
  cases rD0
  have h_Ratio : HasR P w K mg base (He.ga K "Ratio") 2 okR := ⟨He.glo_ok X G (c.fact 64 (f := .glo "Ratio") rfl), _, fd_Ratio___init__, one, He.mkr_ok (c.fact 68 (f := .mkr "Ratio") rfl), b0, b1, r1, FJ.imp r_Ratio___init__ (PC.b_init _)⟩
  have r_w_given : FJ P w K mg base (He.ga K "Ratio") 4 _ fd_w_given ["_law_some"] (runBody 3 d_w_given) := (ok_w_given E h_Ratio Q_w_given)
  have b_w_given : Binds K fd_w_given ["_law_some"] [] := (FunD.bindsN (ps := ["_law_some"]) Q_w_given fun _ _ _ _ _ _ us hl => match us, hl with | [_], _ => rfl)
  have h_w_given : Has P w K mg base (He.ga K "Ratio") "_law_given" 4 ["_law_some"] F_w_given := ⟨_, fd_w_given, He.glo_ok X G (c.fact 8 (f := .glo "_law_given") rfl), Q_w_given.kp, b_w_given, r_w_given⟩
  have r_w_paired : FJ P w K mg base (He.ga K "Ratio") 5 _ fd_w_paired ["_law_dots_here"] (runBody 3 d_w_paired) := (ok_w_paired E h_w_given Q_w_paired)
  have b_w_paired : Binds K fd_w_paired ["_law_dots_here"] [] := (FunD.bindsN (ps := ["_law_dots_here"]) Q_w_paired fun _ _ _ _ _ _ us hl => match us, hl with | [_], _ => rfl)
  have h_w_paired : Has P w K mg base (He.ga K "Ratio") "_law_paired" 5 ["_law_dots_here"] F_w_paired := ⟨_, fd_w_paired, He.glo_ok X G (c.fact 9 (f := .glo "_law_paired") rfl), Q_w_paired.kp, b_w_paired, r_w_paired⟩
  have r_w_minus : FJ P w K mg base (He.ga K "Ratio") 2 _ fd_w_minus ["_law_one", "_law_other"] (runBody 2 d_w_minus) := (ok_w_minus E h_w_low Q_w_minus)
  have b_w_minus : Binds K fd_w_minus ["_law_one", "_law_other"] [] := (FunD.bindsN (ps := ["_law_one", "_law_other"]) Q_w_minus fun _ _ _ _ _ _ us hl => match us, hl with | [_, _], _ => rfl)
  have h_w_minus : Has P w K mg base (He.ga K "Ratio") "_law_minus" 2 ["_law_one", "_law_other"] F_w_minus := ⟨_, fd_w_minus, He.glo_ok X G (c.fact 10 (f := .glo "_law_minus") rfl), Q_w_minus.kp, b_w_minus, r_w_minus⟩
  have r_w_through : FJ P w K mg base (He.ga K "Ratio") 2 _ fd_w_through ["_law_one", "_law_other"] (runBody 2 d_w_through) := (ok_w_through E h_w_low Q_w_through)
  have b_w_through : Binds K fd_w_through ["_law_one", "_law_other"] [] := (FunD.bindsN (ps := ["_law_one", "_law_other"]) Q_w_through fun _ _ _ _ _ _ us hl => match us, hl with | [_, _], _ => rfl)
  have h_w_through : Has P w K mg base (He.ga K "Ratio") "_law_through" 2 ["_law_one", "_law_other"] F_w_through := ⟨_, fd_w_through, He.glo_ok X G (c.fact 11 (f := .glo "_law_through") rfl), Q_w_through.kp, b_w_through, r_w_through⟩
  have r_w_below : FJ P w K mg base (He.ga K "Ratio") 1 _ fd_w_below ["_law_one", "_law_other"] (runBody 2 d_w_below) := (ok_w_below E  Q_w_below)
  have b_w_below : Binds K fd_w_below ["_law_one", "_law_other"] [] := (FunD.bindsN (ps := ["_law_one", "_law_other"]) Q_w_below fun _ _ _ _ _ _ us hl => match us, hl with | [_, _], _ => rfl)
  have h_w_below : Has P w K mg base (He.ga K "Ratio") "_law_below" 1 ["_law_one", "_law_other"] F_w_below := ⟨_, fd_w_below, He.glo_ok X G (c.fact 12 (f := .glo "_law_below") rfl), Q_w_below.kp, b_w_below, r_w_below⟩
  have r_w_sorted : FJ P w K mg base (He.ga K "Ratio") 2 _ fd_w_sorted ["_law_some"] (runBody 5 d_w_sorted) := (ok_w_sorted E h_w_below Q_w_sorted)
  have b_w_sorted : Binds K fd_w_sorted ["_law_some"] [] := (FunD.bindsN (ps := ["_law_some"]) Q_w_sorted fun _ _ _ _ _ _ us hl => match us, hl with | [_], _ => rfl)
  have h_w_sorted : Has P w K mg base (He.ga K "Ratio") "_law_sorted" 2 ["_law_some"] F_w_sorted := ⟨_, fd_w_sorted, He.glo_ok X G (c.fact 13 (f := .glo "_law_sorted") rfl), Q_w_sorted.kp, b_w_sorted, r_w_sorted⟩
  have r_w_plus : FJ P w K mg base (He.ga K "Ratio") 2 _ fd_w_plus ["_law_one", "_law_other"] (runBody 2 d_w_plus) := (ok_w_plus E h_w_low Q_w_plus)
  have b_w_plus : Binds K fd_w_plus ["_law_one", "_law_other"] [] := (FunD.bindsN (ps := ["_law_one", "_law_other"]) Q_w_plus fun _ _ _ _ _ _ us hl => match us, hl with | [_, _], _ => rfl)
  have h_w_plus : Has P w K mg base (He.ga K "Ratio") "_law_plus" 2 ["_law_one", "_law_other"] F_w_plus := ⟨_, fd_w_plus, He.glo_ok X G (c.fact 14 (f := .glo "_law_plus") rfl), Q_w_plus.kp, b_w_plus, r_w_plus⟩
  have r_w_times : FJ P w K mg base (He.ga K "Ratio") 2 _ fd_w_times ["_law_one", "_law_other"] (runBody 2 d_w_times) := (ok_w_times E h_w_low Q_w_times)
  have b_w_times : Binds K fd_w_times ["_law_one", "_law_other"] [] := (FunD.bindsN (ps := ["_law_one", "_law_other"]) Q_w_times fun _ _ _ _ _ _ us hl => match us, hl with | [_, _], _ => rfl)
  have h_w_times : Has P w K mg base (He.ga K "Ratio") "_law_times" 2 ["_law_one", "_law_other"] F_w_times := ⟨_, fd_w_times, He.glo_ok X G (c.fact 15 (f := .glo "_law_times") rfl), Q_w_times.kp, b_w_times, r_w_times⟩
  have r_w_middle : FJ P w K mg base (He.ga K "Ratio") 3 _ fd_w_middle ["_law_one", "_law_two"] (runBody 2 d_w_middle) := (ok_w_middle E h_w_plus h_w_times Q_w_middle)
  have b_w_middle : Binds K fd_w_middle ["_law_one", "_law_two"] [] := (FunD.bindsN (ps := ["_law_one", "_law_two"]) Q_w_middle fun _ _ _ _ _ _ us hl => match us, hl with | [_, _], _ => rfl)
  have h_w_middle : Has P w K mg base (He.ga K "Ratio") "_law_middle" 3 ["_law_one", "_law_two"] F_w_middle := ⟨_, fd_w_middle, He.glo_ok X G (c.fact 16 (f := .glo "_law_middle") rfl), Q_w_middle.kp, b_w_middle, r_w_middle⟩
  have r_w_half : FJ P w K mg base (He.ga K "Ratio") 4 _ fd_w_half ["_law_row"] (runBody 1 d_w_half) := (ok_w_half E h_w_sorted h_w_middle Q_w_half)
  have b_w_half : Binds K fd_w_half ["_law_row"] [] := (FunD.bindsN (ps := ["_law_row"]) Q_w_half fun _ _ _ _ _ _ us hl => match us, hl with | [_], _ => rfl)
  have h_w_half : Has P w K mg base (He.ga K "Ratio") "_law_half" 4 ["_law_row"] F_w_half := ⟨_, fd_w_half, He.glo_ok X G (c.fact 17 (f := .glo "_law_half") rfl), Q_w_half.kp, b_w_half, r_w_half⟩
  have r_w_due : FJ P w K mg base (He.ga K "Ratio") 5 _ fd_w_due ["_law_dots_here"] (runBody 7 d_w_due_k30) := (ok_w_due E h_w_minus h_w_through h_w_half h_w_times Q_w_due)
  have b_w_due : Binds K fd_w_due ["_law_dots_here"] [] := (FunD.bindsN (ps := ["_law_dots_here"]) Q_w_due fun _ _ _ _ _ _ us hl => match us, hl with | [_], _ => rfl)
  have h_w_due : Has P w K mg base (He.ga K "Ratio") "_law_due" 5 ["_law_dots_here"] F_w_due_k30 := ⟨_, fd_w_due, He.glo_ok X G (c.fact 18 (f := .glo "_law_due") rfl), Q_w_due.kp, b_w_due, r_w_due⟩
  have r_Ratio_bottom : FJ P w K mg base (He.ga K "Ratio") 1 _ fd_Ratio_bottom ["self"] (runBody 1 d_Ratio_bottom) := (ok_Ratio_bottom E  Q_Ratio_bottom)
  have b_Ratio_bottom : Binds K fd_Ratio_bottom ["self"] [] := (FunD.bindsN (ps := ["self"]) Q_Ratio_bottom fun _ _ _ _ _ _ us hl => match us, hl with | [_], _ => rfl)
  have h_bottom : HasP P w K mg base (He.ga K "Ratio") "bottom" 1 F_bottom := ⟨_, _, fd_Ratio_bottom, propB_ok (c.chk 30 (x := propB "bottom") rfl), b_Ratio_bottom, FJ.imp r_Ratio_bottom PC.b_bottom⟩
  have r_Ratio_top : FJ P w K mg base (He.ga K "Ratio") 1 _ fd_Ratio_top ["self"] (runBody 1 d_Ratio_top) := (ok_Ratio_top E  Q_Ratio_top)
  have b_Ratio_top : Binds K fd_Ratio_top ["self"] [] := (FunD.bindsN (ps := ["self"]) Q_Ratio_top fun _ _ _ _ _ _ us hl => match us, hl with | [_], _ => rfl)
  have h_top : HasP P w K mg base (He.ga K "Ratio") "top" 1 F_top := ⟨_, _, fd_Ratio_top, propB_ok (c.chk 31 (x := propB "top") rfl), b_Ratio_top, FJ.imp r_Ratio_top PC.b_top⟩
  have r_w_taken : FJ P w K mg base (He.ga K "Ratio") 3 _ fd_w_taken ["_law_value"] (runBody 1 d_w_taken) := (ok_w_taken E h_bottom h_top Q_w_taken)
  have b_w_taken : Binds K fd_w_taken ["_law_value"] [] := (FunD.bindsN (ps := ["_law_value"]) Q_w_taken fun _ _ _ _ _ _ us hl => match us, hl with | [_], _ => rfl)
  have h_w_taken : Has P w K mg base (He.ga K "Ratio") "_law_taken" 3 ["_law_value"] F_w_taken := ⟨_, fd_w_taken, He.glo_ok X G (c.fact 19 (f := .glo "_law_taken") rfl), Q_w_taken.kp, b_w_taken, r_w_taken⟩
  have r_w_kept : FJ P w K mg base (He.ga K "Ratio") 4 _ fd_w_kept ["_law_given_here"] (runBody 2 d_w_kept) := (ok_w_kept E h_w_taken Q_w_kept)
  have b_w_kept : Binds K fd_w_kept ["_law_given_here"] [] := (FunD.bindsN (ps := ["_law_given_here"]) Q_w_kept fun _ _ _ _ _ _ us hl => match us, hl with | [_], _ => rfl)
  have h_w_kept : Has P w K mg base (He.ga K "Ratio") "_law_kept" 4 ["_law_given_here"] F_w_kept := ⟨_, fd_w_kept, He.glo_ok X G (c.fact 20 (f := .glo "_law_kept") rfl), Q_w_kept.kp, b_w_kept, r_w_kept⟩
  have r_is_row : FJ P w K mg base (He.ga K "Ratio") 1 _ fd_is_row ["value"] (runBody 1 d_is_row) := (ok_is_row E  Q_is_row)
  have b_is_row : Binds K fd_is_row ["value"] [] := (FunD.bindsN (ps := ["value"]) Q_is_row fun _ _ _ _ _ _ us hl => match us, hl with | [_], _ => rfl)
  have h_is_row : Has P w K mg base (He.ga K "Ratio") "is_row" 1 ["value"] F_is_row := ⟨_, fd_is_row, He.glo_ok X G (c.fact 21 (f := .glo "is_row") rfl), Q_is_row.kp, b_is_row, r_is_row⟩
  have r_is_number : FJ P w K mg base (He.ga K "Ratio") 2 _ fd_is_number ["value"] (runBody 1 d_is_number) := (ok_is_number E h_is_integer Q_is_number)
  have b_is_number : Binds K fd_is_number ["value"] [] := (FunD.bindsN (ps := ["value"]) Q_is_number fun _ _ _ _ _ _ us hl => match us, hl with | [_], _ => rfl)
  have h_is_number_ratios : Has P w K mg base (He.ga K "Ratio") "is_number_ratios" 2 ["value"] F_is_number := ⟨_, fd_is_number, (He.glo_ok X G (c.fact 44 (f := .glo "is_number_ratios") rfl)).trans (congrArg (fun a => some (Value.ref a)) (of_decide_eq_true (c.chk 37 (x := fun K => decide (He.ga K "is_number_ratios" = He.ga K "is_number")) rfl))), Q_is_number.kp, b_is_number, r_is_number⟩
  have r_is_pair : FJ P w K mg base (He.ga K "Ratio") 3 _ fd_is_pair ["value"] (runBody 1 d_is_pair) := (ok_is_pair E h_is_number_ratios Q_is_pair)
  have b_is_pair : Binds K fd_is_pair ["value"] [] := (FunD.bindsN (ps := ["value"]) Q_is_pair fun _ _ _ _ _ _ us hl => match us, hl with | [_], _ => rfl)
  have h_is_pair : Has P w K mg base (He.ga K "Ratio") "is_pair" 3 ["value"] F_is_pair := ⟨_, fd_is_pair, He.glo_ok X G (c.fact 23 (f := .glo "is_pair") rfl), Q_is_pair.kp, b_is_pair, r_is_pair⟩
  have r_ratio_of : FJ P w K mg base (He.ga K "Ratio") 4 _ fd_ratio_of ["value"] (runBody 1 d_ratio_of) := (ok_ratio_of E h_Ratio Q_ratio_of)
  have b_ratio_of : Binds K fd_ratio_of ["value"] [] := (FunD.bindsN (ps := ["value"]) Q_ratio_of fun _ _ _ _ _ _ us hl => match us, hl with | [_], _ => rfl)
  have h_ratio_of : Has P w K mg base (He.ga K "Ratio") "ratio_of" 4 ["value"] F_ratio_of := ⟨_, fd_ratio_of, He.glo_ok X G (c.fact 24 (f := .glo "ratio_of") rfl), Q_ratio_of.kp, b_ratio_of, r_ratio_of⟩
  have r_need_pairs : FJ P w K mg base (He.ga K "Ratio") 5 _ fd_need_pairs ["pairs"] (runBody 5 d_need_pairs) := (ok_need_pairs E h_exc_BadPairs h_is_row h_is_pair h_ratio_of Q_need_pairs)
  have b_need_pairs : Binds K fd_need_pairs ["pairs"] [] := (FunD.bindsN (ps := ["pairs"]) Q_need_pairs fun _ _ _ _ _ _ us hl => match us, hl with | [_], _ => rfl)
  have h_need_pairs : Has P w K mg base (He.ga K "Ratio") "need_pairs" 5 ["pairs"] F_need_pairs := ⟨_, fd_need_pairs, He.glo_ok X G (c.fact 25 (f := .glo "need_pairs") rfl), Q_need_pairs.kp, b_need_pairs, r_need_pairs⟩
  have r_need_items : FJ P w K mg base (He.ga K "Ratio") 1 _ fd_need_items ["values"] (runBody 1 d_need_items) := (ok_need_items E h_exc_Empty Q_need_items)
  have b_need_items : Binds K fd_need_items ["values"] [] := (FunD.bindsN (ps := ["values"]) Q_need_items fun _ _ _ _ _ _ us hl => match us, hl with | [_], _ => rfl)
  have h_need_items : Has P w K mg base (He.ga K "Ratio") "need_items" 1 ["values"] F_need_items := ⟨_, fd_need_items, He.glo_ok X G (c.fact 26 (f := .glo "need_items") rfl), Q_need_items.kp, b_need_items, r_need_items⟩
  have r_Ratio___eq__ : FJ P w K mg base (He.ga K "Ratio") 5 _ fd_Ratio___eq__ ["self", "other"] (runBody 3 d_Ratio___eq__) := (ok_Ratio___eq__ E h_is_number_ratios h_ratio_of Q_Ratio___eq__)
  have b_Ratio___eq__ : Binds K fd_Ratio___eq__ ["self", "other"] [] := (FunD.bindsN (ps := ["self", "other"]) Q_Ratio___eq__ fun _ _ _ _ _ _ us hl => match us, hl with | [_, _], _ => rfl)
  have h_cmp : HasCm P w K mg base (He.ga K "Ratio") 5 F_Ratio___eq__ := ⟨(cmpB_ok (c.chk 32 (x := cmpB) rfl)).1, _, (cmpB_ok (c.chk 32 (x := cmpB) rfl)).2, ⟨fd_Ratio___eq__, b_Ratio___eq__, r_Ratio___eq__⟩⟩
  have r_Ratio___sub__ : FJ P w K mg base (He.ga K "Ratio") 5 _ fd_Ratio___sub__ ["self", "other"] (runBody 3 d_Ratio___sub__) := (ok_Ratio___sub__ E h_ratio_of h_Ratio Q_Ratio___sub__)
  have b_Ratio___sub__ : Binds K fd_Ratio___sub__ ["self", "other"] [] := (FunD.bindsN (ps := ["self", "other"]) Q_Ratio___sub__ fun _ _ _ _ _ _ us hl => match us, hl with | [_, _], _ => rfl)
  have h_bin_sub : HasBn P w K mg base (He.ga K "Ratio") "sub" 5 F_Ratio___sub__ := ⟨_, binB_ok (c.chk 33 (x := binB "sub") rfl), ⟨fd_Ratio___sub__, b_Ratio___sub__, r_Ratio___sub__⟩⟩
  have r_need_number : FJ P w K mg base (He.ga K "Ratio") 3 _ fd_need_number ["value"] (runBody 1 d_need_number) := (ok_need_number E h_exc_BadNumber h_is_number_ratios Q_need_number)
  have b_need_number : Binds K fd_need_number ["value"] [] := (FunD.bindsN (ps := ["value"]) Q_need_number fun _ _ _ _ _ _ us hl => match us, hl with | [_], _ => rfl)
  have h_need_number : Has P w K mg base (He.ga K "Ratio") "need_number" 3 ["value"] F_need_number := ⟨_, fd_need_number, He.glo_ok X G (c.fact 27 (f := .glo "need_number") rfl), Q_need_number.kp, b_need_number, r_need_number⟩
  have r_Ratio_over : FJ P w K mg base (He.ga K "Ratio") 5 _ fd_Ratio_over ["self", "other"] (runBody 3 d_Ratio_over) := (ok_Ratio_over E h_need_number h_ratio_of h_Ratio Q_Ratio_over)
  have b_Ratio_over : Binds K fd_Ratio_over ["self", "other"] [] := (FunD.bindsN (ps := ["self", "other"]) Q_Ratio_over fun _ _ _ _ _ _ us hl => match us, hl with | [_, _], _ => rfl)
  have h_Ratio_over : HasM P w K mg base (He.ga K "Ratio") "over" 5 ["self", "other"] F_Ratio_over := ⟨_, He.meth_ok (c.fact 88 (f := .meth "Ratio" "over") rfl), ⟨fd_Ratio_over, b_Ratio_over, r_Ratio_over⟩⟩
  have r_is_less : FJ P w K mg base (He.ga K "Ratio") 1 _ fd_is_less ["one", "other"] (runBody 2 d_is_less) := (ok_is_less E  Q_is_less)
  have b_is_less : Binds K fd_is_less ["one", "other"] [] := (FunD.bindsN (ps := ["one", "other"]) Q_is_less fun _ _ _ _ _ _ us hl => match us, hl with | [_, _], _ => rfl)
  have h_is_less : Has P w K mg base (He.ga K "Ratio") "is_less" 1 ["one", "other"] F_is_less := ⟨_, fd_is_less, He.glo_ok X G (c.fact 28 (f := .glo "is_less") rfl), Q_is_less.kp, b_is_less, r_is_less⟩
  have r_joined : FJ P w K mg base (He.ga K "Ratio") 2 _ fd_joined ["near", "far"] (runBody 5 d_joined) := (ok_joined E h_is_less Q_joined)
  have b_joined : Binds K fd_joined ["near", "far"] [] := (FunD.bindsN (ps := ["near", "far"]) Q_joined fun _ _ _ _ _ _ us hl => match us, hl with | [_, _], _ => rfl)
  have h_joined : Has P w K mg base (He.ga K "Ratio") "joined" 2 ["near", "far"] F_joined := ⟨_, fd_joined, He.glo_ok X G (c.fact 29 (f := .glo "joined") rfl), Q_joined.kp, b_joined, r_joined⟩
  have r_arranged : FJ P w K mg base (He.ga K "Ratio") 3 _ fd_arranged ["values"] (runBody 5 d_arranged) := (ok_arranged E h_joined Q_arranged)
  have b_arranged : Binds K fd_arranged ["values"] [] := (FunD.bindsN (ps := ["values"]) Q_arranged fun _ _ _ _ _ _ us hl => match us, hl with | [_], _ => rfl)
  have h_arranged : Has P w K mg base (He.ga K "Ratio") "arranged" 3 ["values"] F_arranged := ⟨_, fd_arranged, He.glo_ok X G (c.fact 30 (f := .glo "arranged") rfl), Q_arranged.kp, b_arranged, r_arranged⟩
  have r_common : FJ P w K mg base (He.ga K "Ratio") 2 _ fd_common ["values"] (runBody 3 d_common) := (ok_common E h_common_divisor Q_common)
  have b_common : Binds K fd_common ["values"] [] := (FunD.bindsN (ps := ["values"]) Q_common fun _ _ _ _ _ _ us hl => match us, hl with | [_], _ => rfl)
  have h_common : Has P w K mg base (He.ga K "Ratio") "common" 2 ["values"] F_common := ⟨_, fd_common, He.glo_ok X G (c.fact 31 (f := .glo "common") rfl), Q_common.kp, b_common, r_common⟩
  have r_total : FJ P w K mg base (He.ga K "Ratio") 4 _ fd_total ["values"] (runBody 3 d_total) := (ok_total E h_common h_Ratio Q_total)
  have b_total : Binds K fd_total ["values"] [] := (FunD.bindsN (ps := ["values"]) Q_total fun _ _ _ _ _ _ us hl => match us, hl with | [_], _ => rfl)
  have h_total : Has P w K mg base (He.ga K "Ratio") "total" 4 ["values"] F_total := ⟨_, fd_total, He.glo_ok X G (c.fact 32 (f := .glo "total") rfl), Q_total.kp, b_total, r_total⟩
  have r_mean_of : FJ P w K mg base (He.ga K "Ratio") 6 _ fd_mean_of ["values"] (runBody 1 d_mean_of) := (ok_mean_of E h_total h_Ratio_over Q_mean_of)
  have b_mean_of : Binds K fd_mean_of ["values"] [] := (FunD.bindsN (ps := ["values"]) Q_mean_of fun _ _ _ _ _ _ us hl => match us, hl with | [_], _ => rfl)
  have h_mean_of : Has P w K mg base (He.ga K "Ratio") "mean_of" 6 ["values"] F_mean_of := ⟨_, fd_mean_of, He.glo_ok X G (c.fact 33 (f := .glo "mean_of") rfl), Q_mean_of.kp, b_mean_of, r_mean_of⟩
  have r_median_of : FJ P w K mg base (He.ga K "Ratio") 7 _ fd_median_of ["values"] (runBody 2 d_median_of) := (ok_median_of E h_mean_of Q_median_of)
  have b_median_of : Binds K fd_median_of ["values"] [] := (FunD.bindsN (ps := ["values"]) Q_median_of fun _ _ _ _ _ _ us hl => match us, hl with | [_], _ => rfl)
  have h_median_of : Has P w K mg base (He.ga K "Ratio") "median_of" 7 ["values"] F_median_of := ⟨_, fd_median_of, He.glo_ok X G (c.fact 34 (f := .glo "median_of") rfl), Q_median_of.kp, b_median_of, r_median_of⟩
  have r_Line___init__ : FJ P w K mg base (He.ga K "Ratio") 5 _ fd_Line___init__ ["self", "slope", "height"] (runBody 3 d_Line___init__) := (ok_Line___init__ E h_need_number h_ratio_of Q_Line___init__)
  have b_Line___init__ : Binds K fd_Line___init__ ["self", "slope", "height"] [] := (FunD.bindsN (ps := ["self", "slope", "height"]) Q_Line___init__ fun _ _ _ _ _ _ us hl => match us, hl with | [_, _, _], _ => rfl)
  have b_h_new_Line_2__012 := FunD.kb3 (ps := ["self", "slope", "height"]) Q_Line___init__ 3 [] [(0, 0), (0, 1), (0, 2)] fun _ _ _ _ _ _ us ws hu hw => match us, ws, hu, hw with | [_, _, _], [], _, _ => rfl
  have h_new_Line_2__012 : HasNew P w K mg base (He.ga K "Ratio") "Line" 5 ["self", "slope", "height"] 2 [] (fun us zs => pick3 [(0, 0), (0, 1), (0, 2)] us [] zs) F_Line___init__ := ⟨fun us zs h1 h2 => match us, zs, h1, h2 with | [_, _, _], [], _, _ => rfl, He.glo_ok X G (c.fact 69 (f := .glo "Line") rfl), _, fd_Line___init__, _, _, He.mkr_ok (c.fact 73 (f := .mkr "Line") rfl), b_h_new_Line_2__012, fun _ _ _ _ _ _ _ _ _ _ r1 r2 => pick3_rep r1 (rfl : RepL _ _ _ _ _ [] []) r2, r_Line___init__⟩
  have r_Ratio___mul__ : FJ P w K mg base (He.ga K "Ratio") 5 _ fd_Ratio___mul__ ["self", "other"] (runBody 3 d_Ratio___mul__) := (ok_Ratio___mul__ E h_ratio_of h_Ratio Q_Ratio___mul__)
  have b_Ratio___mul__ : Binds K fd_Ratio___mul__ ["self", "other"] [] := (FunD.bindsN (ps := ["self", "other"]) Q_Ratio___mul__ fun _ _ _ _ _ _ us hl => match us, hl with | [_, _], _ => rfl)
  have h_bin_mul : HasBn P w K mg base (He.ga K "Ratio") "mul" 5 F_Ratio___mul__ := ⟨_, binB_ok (c.chk 34 (x := binB "mul") rfl), ⟨fd_Ratio___mul__, b_Ratio___mul__, r_Ratio___mul__⟩⟩
  have r_ordered : FJ P w K mg base (He.ga K "Ratio") 4 _ fd_ordered ["values"] (runBody 4 d_ordered) := (ok_ordered E h_common h_Ratio Q_ordered)
  have b_ordered : Binds K fd_ordered ["values"] [] := (FunD.bindsN (ps := ["values"]) Q_ordered fun _ _ _ _ _ _ us hl => match us, hl with | [_], _ => rfl)
  have h_ordered : Has P w K mg base (He.ga K "Ratio") "ordered" 4 ["values"] F_ordered := ⟨_, fd_ordered, He.glo_ok X G (c.fact 35 (f := .glo "ordered") rfl), Q_ordered.kp, b_ordered, r_ordered⟩
  have r_middle_line : FJ P w K mg base (He.ga K "Ratio") 8 _ fd_middle_line ["pairs"] (runBody 9 d_middle_line) := (ok_middle_line E h_exc_TooMany h_exc_NoSpread h_need_pairs h_need_items h_cmp h_bin_sub h_Ratio_over h_arranged h_median_of h_new_Line_2__012 h_bin_mul h_ordered Q_middle_line)
  have b_middle_line : Binds K fd_middle_line ["pairs"] [] := (FunD.bindsN (ps := ["pairs"]) Q_middle_line fun _ _ _ _ _ _ us hl => match us, hl with | [_], _ => rfl)
  have h_middle_line : Has P w K mg base (He.ga K "Ratio") "middle_line" 8 ["pairs"] F_middle_line := ⟨_, fd_middle_line, He.glo_ok X G (c.fact 36 (f := .glo "middle_line") rfl), Q_middle_line.kp, b_middle_line, r_middle_line⟩
  have b_h_middle_line_0_pairs_x0 := FunD.kb3 (ps := ["pairs"]) Q_middle_line 0 ["pairs"] [(2, 0)] fun _ _ _ _ _ _ us ws hu hw => match us, ws, hu, hw with | [], [_], _, _ => rfl
  have h_middle_line_0_pairs_x0 : HasK P w K mg base (He.ga K "Ratio") "middle_line" 8 ["pairs"] 0 ["pairs"] (fun us zs => pick3 [(2, 0)] us [] zs) F_middle_line := ⟨fun us zs h1 h2 => match us, zs, h1, h2 with | [], [_], _, _ => rfl, _, fd_middle_line, _, _, He.glo_ok X G (c.fact 36 (f := .glo "middle_line") rfl), Q_middle_line.kp, b_h_middle_line_0_pairs_x0, fun _ _ _ _ _ _ _ _ _ _ r1 r2 => pick3_rep r1 (rfl : RepL _ _ _ _ _ [] []) r2, r_middle_line⟩
  have r_Line_height : FJ P w K mg base (He.ga K "Ratio") 1 _ fd_Line_height ["self"] (runBody 1 d_Line_height) := (ok_Line_height E  Q_Line_height)
  have b_Line_height : Binds K fd_Line_height ["self"] [] := (FunD.bindsN (ps := ["self"]) Q_Line_height fun _ _ _ _ _ _ us hl => match us, hl with | [_], _ => rfl)
  have h_npr_Line_height : HasPN P w K mg base (He.ga K "Ratio") "Line" "height" 1 F_Line_height := ⟨He.cls_ok (c.fact 70 (f := .cls "Line") rfl), _, _, fd_Line_height, propNB_ok (c.chk 35 (x := propNB "Line" "height") rfl), r_Line_height, b_Line_height⟩
  have r_Line_slope : FJ P w K mg base (He.ga K "Ratio") 1 _ fd_Line_slope ["self"] (runBody 1 d_Line_slope) := (ok_Line_slope E  Q_Line_slope)
  have b_Line_slope : Binds K fd_Line_slope ["self"] [] := (FunD.bindsN (ps := ["self"]) Q_Line_slope fun _ _ _ _ _ _ us hl => match us, hl with | [_], _ => rfl)
  have h_npr_Line_slope : HasPN P w K mg base (He.ga K "Ratio") "Line" "slope" 1 F_Line_slope := ⟨He.cls_ok (c.fact 70 (f := .cls "Line") rfl), _, _, fd_Line_slope, propNB_ok (c.chk 36 (x := propNB "Line" "slope") rfl), r_Line_slope, b_Line_slope⟩
  have r_w_seen : FJ P w K mg base (He.ga K "Ratio") 4 _ fd_w_seen ["_law_straight"] (runBody 1 d_w_seen) := (ok_w_seen E h_npr_Line_height h_w_taken h_npr_Line_slope Q_w_seen)
  have b_w_seen : Binds K fd_w_seen ["_law_straight"] [] := (FunD.bindsN (ps := ["_law_straight"]) Q_w_seen fun _ _ _ _ _ _ us hl => match us, hl with | [_], _ => rfl)
  have h_w_seen : Has P w K mg base (He.ga K "Ratio") "_law_seen" 4 ["_law_straight"] F_w_seen := ⟨_, fd_w_seen, He.glo_ok X G (c.fact 37 (f := .glo "_law_seen") rfl), Q_w_seen.kp, b_w_seen, r_w_seen⟩
  have r_w_word : FJ P w K mg base (He.ga K "Ratio") 1 _ fd_w_word ["_law_error"] (runBody 4 d_w_word) := (ok_w_word E h_isx_BadShare h_isx_BadNumber h_isx_BadAmount h_isx_BadRule h_isx_BadSummary h_ef_value h_isx_BadWeights h_isx_BadSample h_isx_BadEdges h_isx_BadPairs h_ef_index h_isx_TooFew h_ef_needed h_isx_NotThere_TooMany h_isx_NotThere h_ef_item h_ef_most h_isx_NoSpread h_isx_Empty h_isx_Unbounded h_isx_Impossible Q_w_word)
  have b_w_word : Binds K fd_w_word ["_law_error"] [] := (FunD.bindsN (ps := ["_law_error"]) Q_w_word fun _ _ _ _ _ _ us hl => match us, hl with | [_], _ => rfl)
  have h_w_word : Has P w K mg base (He.ga K "Ratio") "_law_word" 1 ["_law_error"] F_w_word := ⟨_, fd_w_word, He.glo_ok X G (c.fact 38 (f := .glo "_law_word") rfl), Q_w_word.kp, b_w_word, r_w_word⟩
  have r_w_told : FJL P w K mg base (He.ga K "Ratio") 2 _ fd_w_told ["_law_call", "_law_error", "_law_found", "e"] "_law_told" (defScope s_w_told) "_law_call" (fun t xs B => runBody 4 (d_w_told_k30 t xs B)) := (ok_w_told E h_try_BadInput_Absent_Undefined h_w_word Q_w_told)
  have b_w_told : Binds K fd_w_told ["_law_call"] [] := (FunD.bindsN (ps := ["_law_call"]) Q_w_told fun _ _ _ _ _ _ us hl => match us, hl with | [_], _ => rfl)
  have h_lam_w_told : HasL P w K mg base (He.ga K "Ratio") "_law_told" 2 F_w_told_k30 := ⟨_, fd_w_told, ["_law_call", "_law_error", "_law_found", "e"], "_law_told", defScope s_w_told, "_law_call", He.glo_ok X G (c.fact 39 (f := .glo "_law_told") rfl), Q_w_told.kp, b_w_told, rfl, .inl rfl, by decide, by decide, r_w_told⟩
  have r_w_mixed : FJ P w K mg base (He.ga K "Ratio") 2 _ fd_w_mixed ["_law_source_here", "_law_items"] (runBody 4 d_w_mixed) := (ok_w_mixed E h_w_next Q_w_mixed)
  have b_w_mixed : Binds K fd_w_mixed ["_law_source_here", "_law_items"] [] := (FunD.bindsN (ps := ["_law_source_here", "_law_items"]) Q_w_mixed fun _ _ _ _ _ _ us hl => match us, hl with | [_, _], _ => rfl)
  have h_w_mixed : Has P w K mg base (He.ga K "Ratio") "_law_mixed" 2 ["_law_source_here", "_law_items"] F_w_mixed := ⟨_, fd_w_mixed, He.glo_ok X G (c.fact 40 (f := .glo "_law_mixed") rfl), Q_w_mixed.kp, b_w_mixed, r_w_mixed⟩
  have r_w_right : FJ P w K mg base (He.ga K "Ratio") 11 _ fd_w_right ["_law_source_here"] (runBody 8 d_w_right_k30) := (ok_w_right E TB tb h_w_dots h_w_paired h_w_due h_w_kept h_middle_line h_w_seen h_lam_w_told h_w_mixed h_middle_line_0_pairs_x0 Q_w_right)
  have b_w_right : Binds K fd_w_right ["_law_source_here"] [] := (FunD.bindsN (ps := ["_law_source_here"]) Q_w_right fun _ _ _ _ _ _ us hl => match us, hl with | [_], _ => rfl)
  have h_w_right : Has P w K mg base (He.ga K "Ratio") "_law_right" 11 ["_law_source_here"] F_w_right_k30 := ⟨_, fd_w_right, He.glo_ok X G (c.fact 41 (f := .glo "_law_right") rfl), Q_w_right.kp, b_w_right, r_w_right⟩
  have r_w_moved_right : FJ P w K mg base (He.ga K "Ratio") 9 _ fd_w_moved_right ["_law_source_here"] (runBody 7 d_w_moved_right_k30) := (ok_w_moved_right E h_w_drawn h_w_next h_w_times h_w_plus h_w_low h_w_paired h_middle_line h_w_seen Q_w_moved_right)
  have b_w_moved_right : Binds K fd_w_moved_right ["_law_source_here"] [] := (FunD.bindsN (ps := ["_law_source_here"]) Q_w_moved_right fun _ _ _ _ _ _ us hl => match us, hl with | [_], _ => rfl)
  have h_w_moved_right : Has P w K mg base (He.ga K "Ratio") "_law_moved_right" 9 ["_law_source_here"] F_w_moved_right_k30 := ⟨_, fd_w_moved_right, He.glo_ok X G (c.fact 42 (f := .glo "_law_moved_right") rfl), Q_w_moved_right.kp, b_w_moved_right, r_w_moved_right⟩
  exact (ok_law E TB tb h_w_source h_w_right h_w_moved_right h_middle_line h_w_seen h_lam_w_told Q_law)
end Gk30
namespace PD
open PySem L3 LD PC
/-- the mean -/
def mn (qs : List Rat) : Rat := sumQ qs / ((qs.length : Int) : Rat)
end PD
namespace L3
section
variable {s : S} {Q : PV → S → Prop} {da db dc : DE} {dr dk : DA} {F FR : DF} {n m : Nat} {dps : List PV} {h : PV → PV → S → R S PV} {h1 : PV → S → R S PV} {gP : List PV → List PV → List PV}
theorem W_dFnD : W (dFnD F n dps dr s) Q = W (dr s) (fun ps s1 => ps.length = n ∧ W (F (ps ++ dps) s1.mu) (fun v mu => Q v ⟨s1.env, mu⟩)) := by
  show W ((dr s).bind _) Q = _
  rw [W_bind]
  congr 1
  funext ps s1
  by_cases z : ps.length = n
  · rw [if_pos z, W_fnS]; simp [z]
  · rw [if_neg z]; simp [z]
@[simp ↓] theorem I_dFnD : WI (dFnD F n dps dr s) (K := ⟨Q⟩) = WI (dr s) (K := ⟨(fun ps s1 => ps.length = n ∧ WI (F (ps ++ dps) s1.mu) (K := ⟨(fun v mu => Q v ⟨s1.env, mu⟩)⟩))⟩) := W_dFnD
theorem W_dFnK : W (dFnK F n m gP dr dk s) Q = W (dr s) (fun ps s1 => W (dk s1) fun zs s2 => (ps.length = n ∧ zs.length = m) ∧ W (F (gP ps zs) s2.mu) (fun v mu => Q v ⟨s2.env, mu⟩)) := by
  show W ((dr s).bind _) Q = _
  rw [W_bind]
  congr 1
  funext ps s1
  rw [W_bind]
  congr 1
  funext zs s2
  by_cases z : ps.length = n ∧ zs.length = m
  · rw [if_pos z, W_fnS]; simp [z]
  · rw [if_neg z]; simp only [W_bad, z, false_and]
@[simp ↓] theorem I_dFnK : WI (dFnK F n m gP dr dk s) (K := ⟨Q⟩) = WI (dr s) (K := ⟨(fun ps s1 => WI (dk s1) (K := ⟨fun zs s2 => (ps.length = n ∧ zs.length = m) ∧ WI (F (gP ps zs) s2.mu) (K := ⟨(fun v mu => Q v ⟨s2.env, mu⟩)⟩)⟩))⟩) := W_dFnK
theorem fmt2 {a b : PV} : W (fMt 2 F [a, b] s) Q = W (F [a, b] s.mu) (fun v mu => Q v ⟨s.env, mu⟩) := by rw [W_fMt]; simp
theorem fmt1 {a : PV} : W (fMt 1 F [a] s) Q = W (F [a] s.mu) (fun v mu => Q v ⟨s.env, mu⟩) := by rw [W_fMt]; simp
theorem W_gRL_rat {a : Rat} {b : Rat} : W (gRL F h (.rat a) (.rat b) s) Q = W (F [.rat a, (.rat b)] s.mu) (fun v mu => Q v ⟨s.env, mu⟩) := fmt2
@[simp ↓] theorem I_gRL_rat {a : Rat} {b : Rat} : WI (gRL F h (.rat a) (.rat b) s) (K := ⟨Q⟩) = WI (F [.rat a, (.rat b)] s.mu) (K := ⟨(fun v mu => Q v ⟨s.env, mu⟩)⟩) := W_gRL_rat
theorem W_gRR_rat {a : Rat} {b : Rat} : W (gRR F FR h (.rat a) (.rat b) s) Q = W (F [.rat a, (.rat b)] s.mu) (fun v mu => Q v ⟨s.env, mu⟩) := fmt2
@[simp ↓] theorem I_gRR_rat {a : Rat} {b : Rat} : WI (gRR F FR h (.rat a) (.rat b) s) (K := ⟨Q⟩) = WI (F [.rat a, (.rat b)] s.mu) (K := ⟨(fun v mu => Q v ⟨s.env, mu⟩)⟩) := W_gRR_rat
theorem W_gRL_int {a : Rat} {b : Int} : W (gRL F h (.rat a) (.int b) s) Q = W (F [.rat a, (.int b)] s.mu) (fun v mu => Q v ⟨s.env, mu⟩) := fmt2
@[simp ↓] theorem I_gRL_int {a : Rat} {b : Int} : WI (gRL F h (.rat a) (.int b) s) (K := ⟨Q⟩) = WI (F [.rat a, (.int b)] s.mu) (K := ⟨(fun v mu => Q v ⟨s.env, mu⟩)⟩) := W_gRL_int
theorem W_gRR_int {a : Rat} {b : Int} : W (gRR F FR h (.rat a) (.int b) s) Q = W (F [.rat a, (.int b)] s.mu) (fun v mu => Q v ⟨s.env, mu⟩) := fmt2
@[simp ↓] theorem I_gRR_int {a : Rat} {b : Int} : WI (gRR F FR h (.rat a) (.int b) s) (K := ⟨Q⟩) = WI (F [.rat a, (.int b)] s.mu) (K := ⟨(fun v mu => Q v ⟨s.env, mu⟩)⟩) := W_gRR_int
theorem W_gRR_ir {a : Int} {b : Rat} : W (gRR F FR h (.int a) (.rat b) s) Q = W (FR [.rat b, .int a] s.mu) (fun v mu => Q v ⟨s.env, mu⟩) := fmt2
@[simp ↓] theorem I_gRR_ir {a : Int} {b : Rat} : WI (gRR F FR h (.int a) (.rat b) s) (K := ⟨Q⟩) = WI (FR [.rat b, .int a] s.mu) (K := ⟨(fun v mu => Q v ⟨s.env, mu⟩)⟩) := W_gRR_ir
theorem W_gRR_ii {a b : Int} : W (gRR F FR h (.int a) (.int b) s) Q = W (h (.int a) (.int b) s) Q := rfl
@[simp ↓] theorem I_gRR_ii {a b : Int} : WI (gRR F FR h (.int a) (.int b) s) (K := ⟨Q⟩) = WI (h (.int a) (.int b) s) (K := ⟨Q⟩) := W_gRR_ii
theorem W_gEqR_rat {a : Rat} {b : Rat} : W (gEqR F h (.rat a) (.rat b) s) Q = W (F [.rat a, (.rat b)] s.mu) (fun v mu => Q v ⟨s.env, mu⟩) := fmt2
@[simp ↓] theorem I_gEqR_rat {a : Rat} {b : Rat} : WI (gEqR F h (.rat a) (.rat b) s) (K := ⟨Q⟩) = WI (F [.rat a, (.rat b)] s.mu) (K := ⟨(fun v mu => Q v ⟨s.env, mu⟩)⟩) := W_gEqR_rat
theorem W_gNeR_rat {a : Rat} {b : Rat} : W (gNeR F h (.rat a) (.rat b) s) Q = W (F [.rat a, (.rat b)] s.mu) (fun v mu => W (notK v ⟨s.env, mu⟩) Q) := W_bind.trans fmt2
@[simp ↓] theorem I_gNeR_rat {a : Rat} {b : Rat} : WI (gNeR F h (.rat a) (.rat b) s) (K := ⟨Q⟩) = WI (F [.rat a, (.rat b)] s.mu) (K := ⟨(fun v mu => WI (notK v ⟨s.env, mu⟩) (K := ⟨Q⟩))⟩) := W_gNeR_rat
theorem W_gEqR_int {a : Rat} {b : Int} : W (gEqR F h (.rat a) (.int b) s) Q = W (F [.rat a, (.int b)] s.mu) (fun v mu => Q v ⟨s.env, mu⟩) := fmt2
@[simp ↓] theorem I_gEqR_int {a : Rat} {b : Int} : WI (gEqR F h (.rat a) (.int b) s) (K := ⟨Q⟩) = WI (F [.rat a, (.int b)] s.mu) (K := ⟨(fun v mu => Q v ⟨s.env, mu⟩)⟩) := W_gEqR_int
theorem W_gNeR_int {a : Rat} {b : Int} : W (gNeR F h (.rat a) (.int b) s) Q = W (F [.rat a, (.int b)] s.mu) (fun v mu => W (notK v ⟨s.env, mu⟩) Q) := W_bind.trans fmt2
@[simp ↓] theorem I_gNeR_int {a : Rat} {b : Int} : WI (gNeR F h (.rat a) (.int b) s) (K := ⟨Q⟩) = WI (F [.rat a, (.int b)] s.mu) (K := ⟨(fun v mu => WI (notK v ⟨s.env, mu⟩) (K := ⟨Q⟩))⟩) := W_gNeR_int
theorem W_gEqR_bl {a : Rat} {b : Bool} : W (gEqR F h (.rat a) (.bl b) s) Q = W (F [.rat a, (.bl b)] s.mu) (fun v mu => Q v ⟨s.env, mu⟩) := fmt2
@[simp ↓] theorem I_gEqR_bl {a : Rat} {b : Bool} : WI (gEqR F h (.rat a) (.bl b) s) (K := ⟨Q⟩) = WI (F [.rat a, (.bl b)] s.mu) (K := ⟨(fun v mu => Q v ⟨s.env, mu⟩)⟩) := W_gEqR_bl
theorem W_gNeR_bl {a : Rat} {b : Bool} : W (gNeR F h (.rat a) (.bl b) s) Q = W (F [.rat a, (.bl b)] s.mu) (fun v mu => W (notK v ⟨s.env, mu⟩) Q) := W_bind.trans fmt2
@[simp ↓] theorem I_gNeR_bl {a : Rat} {b : Bool} : WI (gNeR F h (.rat a) (.bl b) s) (K := ⟨Q⟩) = WI (F [.rat a, (.bl b)] s.mu) (K := ⟨(fun v mu => WI (notK v ⟨s.env, mu⟩) (K := ⟨Q⟩))⟩) := W_gNeR_bl
theorem W_gEqR_str {a : Rat} {b : PySem.Str} : W (gEqR F h (.rat a) (.str b) s) Q = W (F [.rat a, (.str b)] s.mu) (fun v mu => Q v ⟨s.env, mu⟩) := fmt2
@[simp ↓] theorem I_gEqR_str {a : Rat} {b : PySem.Str} : WI (gEqR F h (.rat a) (.str b) s) (K := ⟨Q⟩) = WI (F [.rat a, (.str b)] s.mu) (K := ⟨(fun v mu => Q v ⟨s.env, mu⟩)⟩) := W_gEqR_str
theorem W_gNeR_str {a : Rat} {b : PySem.Str} : W (gNeR F h (.rat a) (.str b) s) Q = W (F [.rat a, (.str b)] s.mu) (fun v mu => W (notK v ⟨s.env, mu⟩) Q) := W_bind.trans fmt2
@[simp ↓] theorem I_gNeR_str {a : Rat} {b : PySem.Str} : WI (gNeR F h (.rat a) (.str b) s) (K := ⟨Q⟩) = WI (F [.rat a, (.str b)] s.mu) (K := ⟨(fun v mu => WI (notK v ⟨s.env, mu⟩) (K := ⟨Q⟩))⟩) := W_gNeR_str
theorem W_gEqR_non {a : Rat} : W (gEqR F h (.rat a) .non s) Q = W (F [.rat a, .non] s.mu) (fun v mu => Q v ⟨s.env, mu⟩) := fmt2
@[simp ↓] theorem I_gEqR_non {a : Rat} : WI (gEqR F h (.rat a) .non s) (K := ⟨Q⟩) = WI (F [.rat a, .non] s.mu) (K := ⟨(fun v mu => Q v ⟨s.env, mu⟩)⟩) := W_gEqR_non
theorem W_gNeR_non {a : Rat} : W (gNeR F h (.rat a) .non s) Q = W (F [.rat a, .non] s.mu) (fun v mu => W (notK v ⟨s.env, mu⟩) Q) := W_bind.trans fmt2
@[simp ↓] theorem I_gNeR_non {a : Rat} : WI (gNeR F h (.rat a) .non s) (K := ⟨Q⟩) = WI (F [.rat a, .non] s.mu) (K := ⟨(fun v mu => WI (notK v ⟨s.env, mu⟩) (K := ⟨Q⟩))⟩) := W_gNeR_non
theorem W_gRL_lnon {q : PV} : W (gRL F h .non q s) Q = W (h .non q s) Q := rfl
@[simp ↓] theorem I_gRL_lnon {q : PV} : WI (gRL F h .non q s) (K := ⟨Q⟩) = WI (h .non q s) (K := ⟨Q⟩) := W_gRL_lnon
theorem W_gEqR_lnon {q : PV} : W (gEqR F h .non q s) Q = W (h .non q s) Q := rfl
@[simp ↓] theorem I_gEqR_lnon {q : PV} : WI (gEqR F h .non q s) (K := ⟨Q⟩) = WI (h .non q s) (K := ⟨Q⟩) := W_gEqR_lnon
theorem W_gNeR_lnon {q : PV} : W (gNeR F h .non q s) Q = W (h .non q s) Q := rfl
@[simp ↓] theorem I_gNeR_lnon {q : PV} : WI (gNeR F h .non q s) (K := ⟨Q⟩) = WI (h .non q s) (K := ⟨Q⟩) := W_gNeR_lnon
theorem W_gRL_lbl {x : Bool} {q : PV} : W (gRL F h (.bl x) q s) Q = W (h (.bl x) q s) Q := rfl
@[simp ↓] theorem I_gRL_lbl {x : Bool} {q : PV} : WI (gRL F h (.bl x) q s) (K := ⟨Q⟩) = WI (h (.bl x) q s) (K := ⟨Q⟩) := W_gRL_lbl
theorem W_gEqR_lbl {x : Bool} {q : PV} : W (gEqR F h (.bl x) q s) Q = W (h (.bl x) q s) Q := rfl
@[simp ↓] theorem I_gEqR_lbl {x : Bool} {q : PV} : WI (gEqR F h (.bl x) q s) (K := ⟨Q⟩) = WI (h (.bl x) q s) (K := ⟨Q⟩) := W_gEqR_lbl
theorem W_gNeR_lbl {x : Bool} {q : PV} : W (gNeR F h (.bl x) q s) Q = W (h (.bl x) q s) Q := rfl
@[simp ↓] theorem I_gNeR_lbl {x : Bool} {q : PV} : WI (gNeR F h (.bl x) q s) (K := ⟨Q⟩) = WI (h (.bl x) q s) (K := ⟨Q⟩) := W_gNeR_lbl
theorem W_gRL_lint {x : Int} {q : PV} : W (gRL F h (.int x) q s) Q = W (h (.int x) q s) Q := rfl
@[simp ↓] theorem I_gRL_lint {x : Int} {q : PV} : WI (gRL F h (.int x) q s) (K := ⟨Q⟩) = WI (h (.int x) q s) (K := ⟨Q⟩) := W_gRL_lint
theorem W_gEqR_lint {x : Int} {q : PV} : W (gEqR F h (.int x) q s) Q = W (h (.int x) q s) Q := rfl
@[simp ↓] theorem I_gEqR_lint {x : Int} {q : PV} : WI (gEqR F h (.int x) q s) (K := ⟨Q⟩) = WI (h (.int x) q s) (K := ⟨Q⟩) := W_gEqR_lint
theorem W_gNeR_lint {x : Int} {q : PV} : W (gNeR F h (.int x) q s) Q = W (h (.int x) q s) Q := rfl
@[simp ↓] theorem I_gNeR_lint {x : Int} {q : PV} : WI (gNeR F h (.int x) q s) (K := ⟨Q⟩) = WI (h (.int x) q s) (K := ⟨Q⟩) := W_gNeR_lint
theorem W_gRL_lstr {x : PySem.Str} {q : PV} : W (gRL F h (.str x) q s) Q = W (h (.str x) q s) Q := rfl
@[simp ↓] theorem I_gRL_lstr {x : PySem.Str} {q : PV} : WI (gRL F h (.str x) q s) (K := ⟨Q⟩) = WI (h (.str x) q s) (K := ⟨Q⟩) := W_gRL_lstr
theorem W_gEqR_lstr {x : PySem.Str} {q : PV} : W (gEqR F h (.str x) q s) Q = W (h (.str x) q s) Q := rfl
@[simp ↓] theorem I_gEqR_lstr {x : PySem.Str} {q : PV} : WI (gEqR F h (.str x) q s) (K := ⟨Q⟩) = WI (h (.str x) q s) (K := ⟨Q⟩) := W_gEqR_lstr
theorem W_gNeR_lstr {x : PySem.Str} {q : PV} : W (gNeR F h (.str x) q s) Q = W (h (.str x) q s) Q := rfl
@[simp ↓] theorem I_gNeR_lstr {x : PySem.Str} {q : PV} : WI (gNeR F h (.str x) q s) (K := ⟨Q⟩) = WI (h (.str x) q s) (K := ⟨Q⟩) := W_gNeR_lstr
theorem W_gRL_ltup {x : List PV} {q : PV} : W (gRL F h (.tup x) q s) Q = W (h (.tup x) q s) Q := rfl
@[simp ↓] theorem I_gRL_ltup {x : List PV} {q : PV} : WI (gRL F h (.tup x) q s) (K := ⟨Q⟩) = WI (h (.tup x) q s) (K := ⟨Q⟩) := W_gRL_ltup
theorem W_gEqR_ltup {x : List PV} {q : PV} : W (gEqR F h (.tup x) q s) Q = W (h (.tup x) q s) Q := rfl
@[simp ↓] theorem I_gEqR_ltup {x : List PV} {q : PV} : WI (gEqR F h (.tup x) q s) (K := ⟨Q⟩) = WI (h (.tup x) q s) (K := ⟨Q⟩) := W_gEqR_ltup
theorem W_gNeR_ltup {x : List PV} {q : PV} : W (gNeR F h (.tup x) q s) Q = W (h (.tup x) q s) Q := rfl
@[simp ↓] theorem I_gNeR_ltup {x : List PV} {q : PV} : WI (gNeR F h (.tup x) q s) (K := ⟨Q⟩) = WI (h (.tup x) q s) (K := ⟨Q⟩) := W_gNeR_ltup
theorem W_gRL_llst {x : List PV} {q : PV} : W (gRL F h (.lst x) q s) Q = W (h (.lst x) q s) Q := rfl
@[simp ↓] theorem I_gRL_llst {x : List PV} {q : PV} : WI (gRL F h (.lst x) q s) (K := ⟨Q⟩) = WI (h (.lst x) q s) (K := ⟨Q⟩) := W_gRL_llst
theorem W_gEqR_llst {x : List PV} {q : PV} : W (gEqR F h (.lst x) q s) Q = W (h (.lst x) q s) Q := rfl
@[simp ↓] theorem I_gEqR_llst {x : List PV} {q : PV} : WI (gEqR F h (.lst x) q s) (K := ⟨Q⟩) = WI (h (.lst x) q s) (K := ⟨Q⟩) := W_gEqR_llst
theorem W_gNeR_llst {x : List PV} {q : PV} : W (gNeR F h (.lst x) q s) Q = W (h (.lst x) q s) Q := rfl
@[simp ↓] theorem I_gNeR_llst {x : List PV} {q : PV} : WI (gNeR F h (.lst x) q s) (K := ⟨Q⟩) = WI (h (.lst x) q s) (K := ⟨Q⟩) := W_gNeR_llst
theorem W_gRL_lfrz {x : List PV} {q : PV} : W (gRL F h (.frz x) q s) Q = W (h (.frz x) q s) Q := rfl
@[simp ↓] theorem I_gRL_lfrz {x : List PV} {q : PV} : WI (gRL F h (.frz x) q s) (K := ⟨Q⟩) = WI (h (.frz x) q s) (K := ⟨Q⟩) := W_gRL_lfrz
theorem W_gEqR_lfrz {x : List PV} {q : PV} : W (gEqR F h (.frz x) q s) Q = W (h (.frz x) q s) Q := rfl
@[simp ↓] theorem I_gEqR_lfrz {x : List PV} {q : PV} : WI (gEqR F h (.frz x) q s) (K := ⟨Q⟩) = WI (h (.frz x) q s) (K := ⟨Q⟩) := W_gEqR_lfrz
theorem W_gNeR_lfrz {x : List PV} {q : PV} : W (gNeR F h (.frz x) q s) Q = W (h (.frz x) q s) Q := rfl
@[simp ↓] theorem I_gNeR_lfrz {x : List PV} {q : PV} : WI (gNeR F h (.frz x) q s) (K := ⟨Q⟩) = WI (h (.frz x) q s) (K := ⟨Q⟩) := W_gNeR_lfrz
theorem W_gRR_lstr {x : PySem.Str} {q : PV} : W (gRR F FR h (.str x) q s) Q = W (h (.str x) q s) Q := rfl
@[simp ↓] theorem I_gRR_lstr {x : PySem.Str} {q : PV} : WI (gRR F FR h (.str x) q s) (K := ⟨Q⟩) = WI (h (.str x) q s) (K := ⟨Q⟩) := W_gRR_lstr
theorem W_gRR_ltup {x : List PV} {q : PV} : W (gRR F FR h (.tup x) q s) Q = W (h (.tup x) q s) Q := rfl
@[simp ↓] theorem I_gRR_ltup {x : List PV} {q : PV} : WI (gRR F FR h (.tup x) q s) (K := ⟨Q⟩) = WI (h (.tup x) q s) (K := ⟨Q⟩) := W_gRR_ltup
theorem W_gRR_llst {x : List PV} {q : PV} : W (gRR F FR h (.lst x) q s) Q = W (h (.lst x) q s) Q := rfl
@[simp ↓] theorem I_gRR_llst {x : List PV} {q : PV} : WI (gRR F FR h (.lst x) q s) (K := ⟨Q⟩) = WI (h (.lst x) q s) (K := ⟨Q⟩) := W_gRR_llst
theorem W_gRR_lfrz {x : List PV} {q : PV} : W (gRR F FR h (.frz x) q s) Q = W (h (.frz x) q s) Q := rfl
@[simp ↓] theorem I_gRR_lfrz {x : List PV} {q : PV} : WI (gRR F FR h (.frz x) q s) (K := ⟨Q⟩) = WI (h (.frz x) q s) (K := ⟨Q⟩) := W_gRR_lfrz
theorem W_gR1_rat {a : Rat} : W (gR1 F h1 (.rat a)  s) Q = W (F [.rat a] s.mu) (fun v mu => Q v ⟨s.env, mu⟩) := fmt1
@[simp ↓] theorem I_gR1_rat {a : Rat} : WI (gR1 F h1 (.rat a)  s) (K := ⟨Q⟩) = WI (F [.rat a] s.mu) (K := ⟨(fun v mu => Q v ⟨s.env, mu⟩)⟩) := W_gR1_rat
theorem W_gR1_int {a : Int} : W (gR1 F h1 (.int a)  s) Q = W (h1 (.int a) s) Q := rfl
@[simp ↓] theorem I_gR1_int {a : Int} : WI (gR1 F h1 (.int a)  s) (K := ⟨Q⟩) = WI (h1 (.int a) s) (K := ⟨Q⟩) := W_gR1_int
theorem W_addL {xs ys : List PV} : W (gAdd (.lst xs) (.lst ys) s) Q = (xs.length + ys.length ≤ 16777216 ∧ Q (.lst (xs ++ ys)) s) := by
  show W (if xs.length + ys.length ≤ 16777216 then _ else _) Q = _
  by_cases z : xs.length + ys.length ≤ 16777216 <;> simp [z]
@[simp ↓] theorem I_addL {xs ys : List PV} : WI (gAdd (.lst xs) (.lst ys) s) (K := ⟨Q⟩) = (xs.length + ys.length ≤ 16777216 ∧ Q (.lst (xs ++ ys)) s) := W_addL
theorem W_addT {xs ys : List PV} : W (gAdd (.tup xs) (.tup ys) s) Q = (xs.length + ys.length ≤ 16777216 ∧ Q (.tup (xs ++ ys)) s) := by
  show W (if xs.length + ys.length ≤ 16777216 then _ else _) Q = _
  by_cases z : xs.length + ys.length ≤ 16777216 <;> simp [z]
@[simp ↓] theorem I_addT {xs ys : List PV} : WI (gAdd (.tup xs) (.tup ys) s) (K := ⟨Q⟩) = (xs.length + ys.length ≤ 16777216 ∧ Q (.tup (xs ++ ys)) s) := W_addT
theorem W_addS {xs ys : PySem.Str} : W (gAdd (.str xs) (.str ys) s) Q = (xs.length + ys.length ≤ 16777216 ∧ Q (.str (xs ++ ys)) s) := by
  show W (if xs.length + ys.length ≤ 16777216 then _ else _) Q = _
  by_cases z : xs.length + ys.length ≤ 16777216 <;> simp [z]
@[simp ↓] theorem I_addS {xs ys : PySem.Str} : WI (gAdd (.str xs) (.str ys) s) (K := ⟨Q⟩) = (xs.length + ys.length ≤ 16777216 ∧ Q (.str (xs ++ ys)) s) := W_addS
theorem W_mulI {i j : Int} : W (gMul (.int i) (.int j) s) Q = (ib i + ib j ≤ 1000000 ∧ Q (.int (i * j)) s) := by
  show W (if ib i + ib j ≤ 1000000 then _ else _) Q = _
  by_cases z : ib i + ib j ≤ 1000000 <;> simp [z]
@[simp ↓] theorem I_mulI {i j : Int} : WI (gMul (.int i) (.int j) s) (K := ⟨Q⟩) = (ib i + ib j ≤ 1000000 ∧ Q (.int (i * j)) s) := W_mulI
theorem W_mulL {xs : List PV} {k : Int} : W (gMul (.lst xs) (.int k) s) Q = ((-(2 ^ 63) ≤ k ∧ k < 2 ^ 63 ∧ xs.length * k.toNat ≤ 16777216) ∧ Q (.lst (List.replicate k.toNat xs).flatten) s) := by
  show W (if -(2 ^ 63) ≤ k ∧ k < 2 ^ 63 ∧ xs.length * k.toNat ≤ 16777216 then _ else _) Q = _
  by_cases z : -(2 ^ 63) ≤ k ∧ k < 2 ^ 63 ∧ xs.length * k.toNat ≤ 16777216
  · rw [if_pos z]; simp only [z, W_ok, and_self, true_and]
  · rw [if_neg z]; simp only [z, W_bad, false_and]
@[simp ↓] theorem I_mulL {xs : List PV} {k : Int} : WI (gMul (.lst xs) (.int k) s) (K := ⟨Q⟩) = ((-(2 ^ 63) ≤ k ∧ k < 2 ^ 63 ∧ xs.length * k.toNat ≤ 16777216) ∧ Q (.lst (List.replicate k.toNat xs).flatten) s) := W_mulL
end
end L3
namespace PD
open PySem L3 LD PC
variable {Fq : List MO → Prop}
section
variable {mu : List MO} {n k : Nat} {Q : PV → List MO → Prop}
theorem w_next {m : Int} (h : SrcR Fq mu n k) (hk : k + 1 ≤ 2 ^ 49) (hm : 0 < m) (hb : ib m ≤ 9000) (i : ∀ r mu', 0 ≤ r → r < m → SrcR Fq mu' n (k + 1) → Q (.int r) mu') : W (F_w_next [.ptr n, .int m] mu) Q :=
  let ⟨r, mu', e, h1, h2, h3⟩ := next_ok h hk hm hb
  W.of e (i r mu' h1 h2 h3)
theorem zd_low {t b : Int} (h1 : 1 ≤ b) (h2 : b ≤ 6) (h3 : -30 ≤ t) (h4 : t ≤ 30) : Zd 60 30 (Rat.divInt t b) := by
  refine Zd.divInt (by omega) ?_ ?_
  · have : b = 1 ∨ b = 2 ∨ b = 3 ∨ b = 4 ∨ b = 5 ∨ b = 6 := by omega
    rcases this with h | h | h | h | h | h <;> subst h <;> decide
  · omega
theorem w_drawn (h : SrcR Fq mu n k) (hk : k + 3 ≤ 2 ^ 49) (i : ∀ q mu', Zd 60 30 q → SrcR Fq mu' n (k + 3) → Q (fr q) mu') : W (F_w_drawn [.ptr n] mu) Q := by
  unfold F_w_drawn d_w_drawn
  simp [W_runBody]
  refine w_next h (by omega) (by decide) (by decide) fun r1 m1 a1 a2 h1 => ?_
  simp
  split
  · refine w_next h1 (by omega) (by decide) (by decide) fun r2 m2 b1 b2 h2 => ?_
    simp
    exact i ((r2 - 3 : Int) : Rat) _ ((Zd.int (B := 30) (by omega)).mono (by decide) (by decide)) (h2.le (by omega))
  · refine w_next h1 (by omega) (by decide) (by decide) fun r2 m2 b1 b2 h2 => ?_
    have fin : ∀ r3 m3, 0 ≤ r3 → r3 < 6 → SrcR Fq m3 n (k + 1 + 1 + 1) → W (F_w_low [.int (r2 - 30), .int (1 + r3)] m3) fun v mu => Q v mu := fun r3 m3 c1 c2 h3 => by
      have hb : ib (1 + r3) ≤ 9000 := by
        have := ib_le (i := 1 + r3) (b := 5) (by omega)
        omega
      exact W.of (e_low _ _ m3 (by omega) hb) (i _ _ (zd_low (by omega) (by omega) (by omega) (by omega)) (h3.le (by omega)))
    simp
    split
    · refine w_next h2 (by omega) (by decide) (by decide) fun r3 m3 c1 c2 h3 => ?_
      simp
      exact fin r3 m3 c1 c2 h3
    · refine w_next h2 (by omega) (by decide) (by decide) fun r3 m3 c1 c2 h3 => ?_
      simp
      exact fin r3 m3 c1 (by omega) h3
theorem w_pick {xs : List PV} (h : SrcR Fq mu n k) (hk : k + 1 ≤ 2 ^ 49) (hne : xs ≠ []) (hl : xs.length ≤ 16777216) (i : ∀ x mu', x ∈ xs → SrcR Fq mu' n (k + 1) → Q x mu') : W (F_w_pick [.ptr n, .lst xs] mu) Q :=
  let ⟨x, mu', e, h1, h2⟩ := pick_ok h hk hne hl
  W.of e (i x mu' h1 h2)
/-- fractions, all with what P says -/
def All (P : Rat → Prop) (qs : List Rat) : Prop := ∀ q ∈ qs, P q
theorem w_source {ns : List Int} {j : Nat} {mu : List MO} {Q : PV → List MO → Prop} (hk : j ≤ 2 ^ 40) (hf : flatMs mu = true) (i : ∀ mu', Src mu' mu.length (3 * j) → Q (.ptr mu.length) mu') : W (F_w_source [.frz (ns.map .int), .int j] mu) Q :=
  let ⟨mu', e, h⟩ := source_ok ns j mu hk hf
  W.of e (i mu' h)
theorem z_given {D B : Nat} {qs : List Rat} (s : Sm D B) (hz : All (Zd D B) qs) (hl : qs.length ≤ 10000) (mu : List MO) : F_w_given [.lst (qs.map fr)] mu = .ok (.lst (qs.map gv)) mu := e_given qs (fun q hq => (hz q hq).sm s) (by omega) hl mu
end
end PD
set_option maxHeartbeats 1000000
namespace PD
open PySem L3 LD PC
variable {Fq : List MO → Prop}
theorem eqP_fr (x y : Rat) : eqP (fr x) (fr y) = decide (x = y) := by
  rw [rat_eq]
  simp [fr, eqP, eqPL]
theorem W_ne_fr {F : DF} {x y : Rat} {s : S} {Q : PV → S → Prop} : W (gNeR F (gEq true) (fr x) (fr y) s) Q = Q (.bl (!decide (x = y))) s := by
  have h : gNeR F (gEq true) (fr x) (fr y) s = .ok (.bl (!decide (x = y))) s := by
    show gEq true (fr x) (fr y) s = _
    unfold gEq
    rw [if_pos ⟨okD_fr x, okD_fr y⟩, eqP_fr, Bool.true_xor]
  rw [h, W_ok]
@[simp ↓] theorem I_ne_fr {F : DF} {x y : Rat} {s : S} {Q : PV → S → Prop} : WI (gNeR F (gEq true) (fr x) (fr y) s) (K := ⟨Q⟩) = Q (.bl (!decide (x = y))) s := W_ne_fr
theorem W_gne_fr {x y : Rat} {s : S} {Q : PV → S → Prop} : W (gEq true (fr x) (fr y) s) Q = Q (.bl (!decide (x = y))) s := by
  unfold gEq
  rw [if_pos ⟨okD_fr x, okD_fr y⟩, eqP_fr, Bool.true_xor, W_ok]
@[simp ↓] theorem I_gne_fr {x y : Rat} {s : S} {Q : PV → S → Prop} : WI (gEq true (fr x) (fr y) s) (K := ⟨Q⟩) = Q (.bl (!decide (x = y))) s := W_gne_fr
theorem fr_of {q : Rat} {n : Int} {d : Nat} (h1 : q.num = n) (h2 : q.den = d) : fr q = .tup [.int n, .int (d : Int)] := by rw [← h1, ← h2]; rfl
end PD
set_option maxHeartbeats 1000000
namespace PD
open PySem L3 LD PC
def leQ (a b : Rat) : Bool := decide (a ≤ b)
abbrev rsort (qs : List Rat) : List Rat := srt leQ qs
theorem leQ_tot (a b : Rat) : leQ a b = true ∨ leQ b a = true := by
  unfold leQ
  rcases Rat.le_total (a := a) (b := b) with h | h <;> simp [h]
theorem leQ_tr (a b c : Rat) (h1 : leQ a b = true) (h2 : leQ b c = true) : leQ a c = true := decide_eq_true (Rat.le_trans (of_decide_eq_true h1) (of_decide_eq_true h2))
theorem leQ_as (a b : Rat) (h1 : leQ a b = true) (h2 : leQ b a = true) : a = b := Rat.le_antisymm (of_decide_eq_true h1) (of_decide_eq_true h2)
theorem rsort_sorted (qs : List Rat) : (rsort qs).Pairwise (fun a b => leQ a b = true) := srt_sorted leQ_tot leQ_tr qs
theorem rsort_perm (qs : List Rat) : (rsort qs).Perm qs := srt_perm leQ qs
theorem rsort_len (qs : List Rat) : (rsort qs).length = qs.length := (rsort_perm qs).length_eq
theorem rsort_uniq {a qs : List Rat} (p : a.Perm qs) (h : a.Pairwise (fun a b => leQ a b = true)) : a = rsort qs := sorted_uniq (le := leQ) leQ_as (p.trans (rsort_perm qs).symm) h (rsort_sorted qs)
theorem rsort_congr {a b : List Rat} (p : a.Perm b) : rsort a = rsort b := rsort_uniq ((rsort_perm a).trans p) (rsort_sorted a)
theorem divInt_mono {t u : Int} {L : Nat} (h0 : 0 < L) (h : t ≤ u) : Rat.divInt t L ≤ Rat.divInt u L := by
  rw [Rat.le_iff_sub_nonneg]
  have e : Rat.divInt u L - Rat.divInt t L = Rat.divInt (u - t) L := by
    rw [Rat.sub_eq_add_neg, Rat.neg_divInt, add_same (by omega : ((L : Nat) : Int) ≠ 0), Int.sub_eq_add_neg]
  rw [e]
  have : 0 ≤ (Rat.divInt (u - t) L).num := by
    obtain ⟨m, hm, h1, h2⟩ := Rat.divInt_num_den (z' := (Rat.divInt (u - t) L).den_nz) (c := (Rat.divInt (u - t) L).reduced) (by omega : ((L : Nat) : Int) ≠ 0) rfl
    have hm' : 0 < m := by
      have hd := (Rat.divInt (u - t) L).den_pos
      rcases Int.lt_or_gt_of_ne hm with z | z
      · have : ((Rat.divInt (u - t) L).den : Int) * m < 0 := Int.mul_neg_of_pos_of_neg (by omega) z
        omega
      · exact z
    have h3 : 0 ≤ (Rat.divInt (u - t) L).num * m := by omega
    exact Int.nonneg_of_mul_nonneg_left h3 hm'
  exact Rat.num_nonneg.mp this
theorem z_ordered {D B : Nat} (s : Sm D B) {qs : List Rat} (hz : ∀ q ∈ qs, Zd D B q) (hn : qs.length ≤ 10000) (mu : List MO) : F_ordered [.lst (qs.map .rat)] mu = .ok (.lst ((rsort qs).map .rat)) mu := by
  obtain ⟨e1, h0, h1, h2⟩ := z_common s hz hn mu
  have hk : ∀ t : Int, okR t (lcmD qs : Nat) = true := fun t => by
    have := ib_le (i := ((lcmD qs : Nat) : Int)) (b := 3990) (by rw [Int.natAbs_natCast]; exact Nat.le_trans (Nat.le_of_dvd s.pos h1) s.bot)
    exact decide_eq_true (by omega)
  have hb : ¬ lcmD qs = 0 := by omega
  have es : (isort (tops (lcmD qs) qs)).map (fun t => Rat.divInt t (lcmD qs : Nat)) = rsort qs := by
    refine rsort_uniq ?_ ?_
    · refine ((srt_perm leI _).map _).trans ?_
      unfold tops
      rw [List.map_map]
      refine List.Perm.of_eq ?_
      conv => rhs; rw [← List.map_id qs]
      exact List.map_congr_left fun q hq => one_same h0 (h2 q hq)
    · refine List.pairwise_map.mpr ?_
      refine (srt_sorted (le := leI) (fun a b => by unfold leI; rcases Int.le_total a b with h | h <;> simp [h]) (fun a b c h1 h2 => decide_eq_true (Int.le_trans (of_decide_eq_true h1) (of_decide_eq_true h2))) _).imp fun h => ?_
      exact decide_eq_true (divInt_mono h0 (of_decide_eq_true h))
  have hlen : (isort (tops (lcmD qs) qs)).length = qs.length := by
    rw [(srt_perm leI _).length_eq]; unfold tops; rw [List.length_map]
  have h : W (F_ordered [.lst (qs.map .rat)] mu) (fun v mu' => v = .lst ((rsort qs).map .rat) ∧ mu' = mu) := by
    unfold F_ordered d_ordered
    simp [W_runBody, e1, intsP_map]
    refine W_compMap (isort (tops (lcmD qs) qs)) PV.int (fun t => .rat (Rat.divInt t (lcmD qs : Nat))) (by omega) (fun t ht => ?_) ?_
    · simp [e_ordered_1, hb, hk, wipeE]
    · simp [wipeE]
      rw [← es, List.map_map]; rfl
  obtain ⟨v, mu', e, rfl, rfl⟩ := h.out
  exact e
theorem e_below {x y : Rat} {a b : Nat} (h1 : Zb x a) (h2 : Zb y b) (hab : a + b ≤ 8000) (mu : List MO) : F_w_below [fr x, fr y] mu = .ok (.bl (decide (x < y))) mu := by
  have c1 : ib x.num + ib (y.den : Int) ≤ 1000000 := by have := h1.ib_num; have := h2.ib_den; omega
  have c2 : ib y.num + ib (x.den : Int) ≤ 1000000 := by have := h2.ib_num; have := h1.ib_den; omega
  simp [F_w_below, runBody, d_w_below, fr, c1, c2, Rat.lt_iff]
def insQ (x : Rat) (l : List Rat) : List Rat := l.take (l.filter fun y => !decide (x < y)).length ++ [x] ++ l.drop (l.filter fun y => !decide (x < y)).length
theorem insQ_sorted (x : Rat) : ∀ l : List Rat, l.Pairwise (fun a b => leQ a b = true) → (insQ x l).Pairwise (fun a b => leQ a b = true)
  | [], _ => by simp [insQ]
  | y :: r, h => by
    rw [List.pairwise_cons] at h
    have ih := insQ_sorted x r h.2
    by_cases hx : x < y
    · have e : (y :: r).filter (fun z => !decide (x < z)) = [] := by
        rw [List.filter_eq_nil_iff]
        intro z hz
        have : x < z := by
          rcases List.mem_cons.mp hz with e | e
          · rw [e]; exact hx
          · have h1 := of_decide_eq_true (h.1 z e)
            grind
        simp [this]
      unfold insQ
      rw [e]
      simp only [List.length_nil, List.take_zero, List.drop_zero, List.nil_append, List.cons_append]
      refine List.pairwise_cons.mpr ⟨fun z hz => ?_, List.pairwise_cons.mpr h⟩
      rcases List.mem_cons.mp hz with e | e
      · rw [e]; exact decide_eq_true (Rat.le_of_lt hx)
      · have h1 := of_decide_eq_true (h.1 z e)
        exact decide_eq_true (by grind)
    · have e : (y :: r).filter (fun z => !decide (x < z)) = y :: r.filter (fun z => !decide (x < z)) := by
        rw [List.filter_cons, if_pos (by simp [hx])]
      have e2 : insQ x (y :: r) = y :: insQ x r := by
        unfold insQ
        rw [e]
        simp
      rw [e2]
      refine List.pairwise_cons.mpr ⟨fun z hz => ?_, ih⟩
      have hz' : z ∈ x :: r := by
        unfold insQ at hz
        simp only [List.append_assoc, List.cons_append, List.nil_append, List.mem_append, List.mem_cons] at hz
        rcases hz with h1 | h1 | h1
        · exact List.mem_cons_of_mem _ (List.mem_of_mem_take h1)
        · rw [h1]; exact List.mem_cons_self
        · exact List.mem_cons_of_mem _ (List.mem_of_mem_drop h1)
      rcases List.mem_cons.mp hz' with e3 | e3
      · rw [e3]; exact decide_eq_true (Rat.not_lt.mp hx)
      · exact h.1 z e3
theorem insQ_perm (x : Rat) (l : List Rat) : (insQ x l).Perm (x :: l) := by
  unfold insQ
  generalize (l.filter fun y => !decide (x < y)).length = n
  conv => rhs; rw [← List.take_append_drop n l]
  rw [List.append_assoc]
  exact List.perm_middle
end PD
namespace PD
open PySem L3 LD PC
/-- a comprehension with a test, the state the same behind each element -/
theorem W_compFilter {tg : DG} {ta : DT} {da : DE} {s : S} {α : Type} {B : List PV → S → Prop} {vs : List Nat} (l : List α) (g f : α → PV) (c : α → Bool) (hl : l.length ≤ 16777216) (h : ∀ a ∈ l, W (tgt (tg (g a) s) ta) fun b s2 => b = c a ∧ (c a = false → wipeS vs s2 = s) ∧ (c a = true → W (da s2) fun y s3 => y = f a ∧ wipeS vs s3 = s))
    (hB : B ((l.filter c).map f) s) : W (compL tg ta da vs (l.map g) [] s) B := by
  refine W_compL (I := fun xs acc s' => s' = s ∧ ∃ l1 l2, l = l1 ++ l2 ∧ xs = l2.map g ∧ acc = (l1.filter c).map f) ⟨rfl, [], l, rfl, rfl, rfl⟩ ?_ ?_
  · intro x ys acc s' hI
    obtain ⟨e0, l1, l2, e1, e2, e3⟩ := hI
    subst e0 e3
    cases l2 with
    | nil => cases e2
    | cons a l2 =>
      cases e2
      have h1 := h a (by rw [e1]; simp)
      refine h1.mono fun b s2 h2 => ?_
      obtain ⟨hb, hf, ht⟩ := h2
      subst hb
      by_cases hc : c a = true
      · rw [if_pos hc]
        refine (ht hc).mono fun y s3 h3 => ?_
        rw [h3.1]
        refine ⟨?_, h3.2, l1 ++ [a], l2, by rw [e1]; simp, rfl, by rw [List.filter_append]; simp [hc]⟩
        have := List.length_filter_le c l1
        rw [List.length_map]; rw [e1, List.length_append, List.length_cons] at hl; omega
      · rw [if_neg hc]
        refine ⟨hf (by simpa using hc), l1 ++ [a], l2, by rw [e1]; simp, rfl, by rw [List.filter_append]; simp [hc]⟩
  · intro acc s' hI
    obtain ⟨e0, l1, l2, e1, e2, e3⟩ := hI
    subst e0 e3
    cases l2 with
    | nil => rw [e1, List.append_nil] at hB; exact hB
    | cons a l2 => cases e2
theorem sIx_pos {n d : Nat} {i : Int} (h : 0 ≤ i) : HT.sIx n d (some i) = min i.toNat n := by
  show (if i < 0 then (i + (n : Int)).toNat else min i.toNat n) = _
  rw [if_neg (by omega)]
theorem cut_take {xs : List PV} {i : Int} (h : 0 ≤ i) : cutP xs none (some i) = xs.take i.toNat := by
  unfold cutP
  rw [sIx_pos h]
  show (xs.drop 0).take (min i.toNat xs.length - 0) = _
  rw [List.drop_zero, Nat.sub_zero]
  by_cases z : i.toNat ≤ xs.length
  · rw [Nat.min_eq_left z]
  · rw [Nat.min_eq_right (by omega), List.take_of_length_le (Nat.le_refl _), List.take_of_length_le (by omega)]
theorem cut_drop {xs : List PV} {i : Int} (h : 0 ≤ i) : cutP xs (some i) none = xs.drop i.toNat := by
  unfold cutP
  rw [sIx_pos h]
  show (xs.drop (min i.toNat xs.length)).take (xs.length - min i.toNat xs.length) = _
  by_cases z : i.toNat ≤ xs.length
  · rw [Nat.min_eq_left z, List.take_of_length_le (by rw [List.length_drop]; omega)]
  · rw [Nat.min_eq_right (by omega), List.drop_eq_nil_of_le (Nat.le_refl _), List.drop_eq_nil_of_le (by omega)]
    simp
end PD
set_option maxHeartbeats 1000000
namespace PX
open PySem L3 LD PC PD
theorem getD_get {l : List Rat} {i : Nat} (h : i < l.length) : l.getD i 0 = l[i] := by
  simp [List.getD_eq_getElem?_getD, h]
theorem at_int {α : Type} {xs : List α} {i : Int} (h0 : 0 ≤ i) (h : i.toNat < xs.length) : L2.atI xs i = some xs[i.toNat] := by
  have e := at_of h
  rwa [Int.toNat_of_nonneg h0] at e
def medl (qs : List Rat) : List Rat := [(rsort qs).getD ((qs.length - 1) / 2) 0, (rsort qs).getD (qs.length / 2) 0]
theorem medl_mem {qs : List Rat} (h : qs ≠ []) {q : Rat} (hq : q ∈ medl qs) : q ∈ qs := by
  have h0 : 0 < qs.length := List.length_pos_iff.mpr h
  have hl := rsort_len qs
  unfold medl at hq
  simp only [List.mem_cons, List.not_mem_nil, or_false] at hq
  rcases hq with e | e
  · rw [e, getD_get (by omega)]; exact (rsort_perm qs).mem_iff.mp (List.getElem_mem _)
  · rw [e, getD_get (by omega)]; exact (rsort_perm qs).mem_iff.mp (List.getElem_mem _)
theorem at_rs {f : Rat → PV} {qs : List Rat} {i : Int} {j : Nat} (hi : i.toNat = j) (h0 : 0 ≤ i) (h : j < qs.length) : L2.atI ((rsort qs).map f) i = some (f ((rsort qs).getD j 0)) := by
  subst hi
  rw [at_int h0 (by rw [List.length_map, rsort_len]; exact h), List.getElem_map, getD_get (by rw [rsort_len]; exact h)]
end PX
set_option maxHeartbeats 1000000
namespace PX
open PySem L3 LD PC PD
def ab (q : Rat) : Rat := ⟨q.num.natAbs, q.den, q.den_nz, by simpa using q.reduced⟩
theorem ab_num (q : Rat) : (ab q).num = (q.num.natAbs : Int) := rfl
theorem ab_den (q : Rat) : (ab q).den = q.den := rfl
theorem zd_ab {D B : Nat} {q : Rat} (h : Zd D B q) : Zd D B (ab q) := ⟨h.dvd, by rw [ab_num, ab_den, Int.natAbs_natCast]; exact h.le⟩
def far (qs : List Rat) (c : Rat) : List Rat := qs.map fun q => ab (q - c)
theorem far_zd {D A B : Nat} {qs : List Rat} {c : Rat} (h0 : 0 < D) (hz : ∀ q ∈ qs, Zd D A q) (hc : Zd D B c) : ∀ q ∈ far qs c, Zd D (A + B) q := fun q hq => by
  obtain ⟨x, hx, rfl⟩ := List.mem_map.mp hq
  exact zd_ab (Zd.sub h0 (hz x hx) hc)
theorem e_median_of {D B : Nat} (s : Sm D (2 * B)) (hB : 1 ≤ B) {qs : List Rat} (hz : ∀ q ∈ qs, Zd D B q) (hne : qs ≠ []) (hn : qs.length ≤ 4000) (mu : List MO) : F_median_of [.lst ((rsort qs).map .rat)] mu = .ok (.rat (mn (medl qs))) mu := by
  have h0 : 0 < qs.length := List.length_pos_iff.mpr hne
  have a1 := at_rs (f := .rat) (qs := qs) (i := ((qs.length : Int) - 1) / 2) (j := (qs.length - 1) / 2) (by omega) (by omega) (by omega)
  have a2 := at_rs (f := .rat) (qs := qs) (i := (qs.length : Int) / 2) (j := qs.length / 2) (by omega) (by omega) (by omega)
  have i2 : ib 2 ≤ 9000 := by decide
  have e2 := z_mean_of (N := 2) s hB (fun q hq => hz q (medl_mem hne hq)) (by simp [medl]) (by simp [medl]) (by decide) mu
  have e2 : F_mean_of [.lst [.rat ((rsort qs).getD ((qs.length - 1) / 2) 0), .rat ((rsort qs).getD (qs.length / 2) 0)]] mu = .ok (.rat (mn (medl qs))) mu := e2
  have h : W (F_median_of [.lst ((rsort qs).map .rat)] mu) (fun v mu' => v = .rat (mn (medl qs)) ∧ mu' = mu) := by
    unfold F_median_of d_median_of
    simp [-List.getD_eq_getElem?_getD, W_runBody, i2, rsort_len, a1, a2, e2]
  obtain ⟨v, mu', e, rfl, rfl⟩ := h.out
  exact e
def ix : Nat → List Rat → List (Nat × Rat)
  | _, [] => []
  | k, q :: qs => (k, q) :: ix (k + 1) qs
structure Cd (D B N : Nat) : Prop where
  d : 0 < D
  b : 1 ≤ B
  n : N ≤ 20
  n1 : 2 ≤ N
  s : Sm (D * 232792560) ((N + 2) * (B + N * B))
section
variable {D B N : Nat} {qs : List Rat} {ps : List PV} {sm : PV}
theorem Cd.s1 (c : Cd D B N) : Sm (D * 232792560) (N * (B + N * B) + (B + N * B)) := c.s.le c.s.pos (Nat.le_refl _) (by
  have h : (N + 2) * (B + N * B) = N * (B + N * B) + 2 * (B + N * B) := by rw [Nat.add_mul]
  omega)
theorem Cd.up (c : Cd D B N) (hz : ∀ q ∈ qs, Zd D B q) : ∀ q ∈ qs, Zd (D * 232792560) B q := fun q hq => (hz q hq).mono (Nat.dvd_mul_right _ _) (Nat.le_refl _)
theorem Cd.far (c : Cd D B N) (hz : ∀ q ∈ qs, Zd D B q) {m : Rat} (hm : Zd (D * 232792560) (N * B) m) : ∀ q ∈ far qs m, Zd (D * 232792560) (B + N * B) q := far_zd c.s.pos (c.up hz) hm
end
end PX
set_option maxHeartbeats 1000000
namespace PX
open PySem L3 LD PC PD
theorem W_ne_nil {F : DF} {qs : List Rat} {s : S} {Q : PV → S → Prop} : W (gNeR F (gEq true) (.lst (qs.map fr)) (.lst []) s) Q = Q (.bl (!qs.isEmpty)) s := by
  have h : gNeR F (gEq true) (.lst (qs.map fr)) (.lst []) s = .ok (.bl (!qs.isEmpty)) s := by
    show gEq true (.lst (qs.map fr)) (.lst []) s = _
    unfold gEq
    rw [if_pos ⟨okD_frs qs, okD_nil⟩, show eqP (.lst (qs.map fr)) (.lst []) = eqPL (qs.map fr) [] from by simp [eqP], eqPL_nil, Bool.true_xor, List.isEmpty_map]
  rw [h, W_ok]
@[simp ↓] theorem I_ne_nil {F : DF} {qs : List Rat} {s : S} {Q : PV → S → Prop} : WI (gNeR F (gEq true) (.lst (qs.map fr)) (.lst []) s) (K := ⟨Q⟩) = Q (.bl (!qs.isEmpty)) s := W_ne_nil
theorem W_gne_nil {qs : List Rat} {s : S} {Q : PV → S → Prop} : W (gEq true (.lst (qs.map fr)) (.lst []) s) Q = Q (.bl (!qs.isEmpty)) s := by
  unfold gEq
  rw [if_pos ⟨okD_frs qs, okD_nil⟩, show eqP (.lst (qs.map fr)) (.lst []) = eqPL (qs.map fr) [] from by simp [eqP], eqPL_nil, Bool.true_xor, List.isEmpty_map, W_ok]
@[simp ↓] theorem I_gne_nil {qs : List Rat} {s : S} {Q : PV → S → Prop} : WI (gEq true (.lst (qs.map fr)) (.lst []) s) (K := ⟨Q⟩) = Q (.bl (!qs.isEmpty)) s := W_gne_nil
end PX
set_option maxHeartbeats 1000000
namespace PX
open PySem L3 LD PC PD
theorem W_ne_self {p : PV} {s : S} {Q : PV → S → Prop} (h : okD 8 p = true) : W (gEq true p p s) Q = Q (.bl false) s := by
  unfold gEq
  rw [if_pos ⟨h, h⟩, eqP_self 8 p h, W_ok]
  rfl
@[simp ↓] theorem I_ne_self {p : PV} {s : S} {Q : PV → S → Prop} (h : okD 8 p = true) : WI (gEq true p p s) (K := ⟨Q⟩) = Q (.bl false) s := W_ne_self h
theorem W_ix0 {q : Rat} {s : S} {Q : PV → S → Prop} : W (fIx (fr q) (.int 0) s) Q = Q (.int q.num) s := by
  rw [show fIx (fr q) (.int 0) s = .ok (.int q.num) s from rfl, W_ok]
@[simp ↓] theorem I_ix0 {q : Rat} {s : S} {Q : PV → S → Prop} : WI (fIx (fr q) (.int 0) s) (K := ⟨Q⟩) = Q (.int q.num) s := W_ix0
theorem W_ix1 {q : Rat} {s : S} {Q : PV → S → Prop} : W (fIx (fr q) (.int 1) s) Q = Q (.int q.den) s := by
  rw [show fIx (fr q) (.int 1) s = .ok (.int q.den) s from rfl, W_ok]
@[simp ↓] theorem I_ix1 {q : Rat} {s : S} {Q : PV → S → Prop} : WI (fIx (fr q) (.int 1) s) (K := ⟨Q⟩) = Q (.int q.den) s := W_ix1
end PX
set_option maxHeartbeats 1000000
namespace PX
open PySem L3 LD PC PD
def lo (qs : List Rat) : Rat := (rsort qs).getD ((qs.length - 1) / 2) 0
def hi (qs : List Rat) : Rat := (rsort qs).getD (qs.length / 2) 0
end PX
set_option maxHeartbeats 1000000
set_option maxHeartbeats 1000000
namespace PX
open PySem L3 LD PC PD
theorem mem_rs {qs : List Rat} (h : qs ≠ []) {i : Nat} (hi : i < qs.length) : (rsort qs).getD i 0 ∈ qs := by
  rw [getD_get (by rw [rsort_len]; exact hi)]
  exact (rsort_perm qs).mem_iff.mp (List.getElem_mem _)
theorem lo_mem {qs : List Rat} (h : qs ≠ []) : lo qs ∈ qs := mem_rs h (by have := List.length_pos_iff.mpr h; omega)
theorem hi_mem {qs : List Rat} (h : qs ≠ []) : hi qs ∈ qs := mem_rs h (by have := List.length_pos_iff.mpr h; omega)
end PX
set_option maxHeartbeats 1000000
set_option maxHeartbeats 1000000
set_option maxHeartbeats 1000000
set_option maxHeartbeats 1000000
namespace PX
open PySem L3 LD PC PD
theorem W_eq_str {neg : Bool} {a b : Str} {s : S} {Q : PV → S → Prop} : W (gEq neg (.str a) (.str b) s) Q = Q (.bl (xor neg (a == b))) s := by
  rw [gEq_str, W_ok]
@[simp ↓] theorem I_eq_str {neg : Bool} {a b : Str} {s : S} {Q : PV → S → Prop} : WI (gEq neg (.str a) (.str b) s) (K := ⟨Q⟩) = Q (.bl (xor neg (a == b))) s := W_eq_str
end PX
set_option maxHeartbeats 1000000
set_option maxHeartbeats 1000000
set_option maxHeartbeats 1000000
set_option maxHeartbeats 1000000
set_option maxHeartbeats 1000000
namespace PX
open PySem L3 LD PC PD
/-- a given number as the law keeps it -/
def kp (q : Rat) : PV := if 1 < q.den then fr q else .int q.num
theorem e_kept {qs : List Rat} {sm : PV} (hs : sm = .lst (qs.map gv) ∨ sm = .tup (qs.map gv)) (hn : qs.length ≤ 1000) (mu : List MO) : F_w_kept [sm] mu = .ok (.lst (qs.map kp)) mu := by
  have key : ∀ (o : Option SV), W (compL (gN 1) dYes e_w_kept_1 [1] (qs.map gv) [] ⟨[some (.val sm), none], mu⟩) (fun xs s => xs = qs.map kp ∧ s = ⟨[some (.val sm), none], mu⟩) := fun o => by
    refine W_compMap qs gv kp (by omega) ?_ ⟨rfl, rfl⟩
    intro q hq
    unfold gv kp e_w_kept_1
    by_cases h : 1 < q.den
    · have t := e_taken q mu
      simp [h, t, wipeE]
    · simp [h, wipeE]
  obtain ⟨xs, s, e, rfl, rfl⟩ := (key none).out
  rcases hs with rfl | rfl <;> simp [F_w_kept, runBody, d_w_kept, wipeS, wipeE, e]
end PX
set_option maxHeartbeats 1000000
set_option maxHeartbeats 1000000
set_option maxHeartbeats 1000000
set_option maxHeartbeats 1000000
set_option maxHeartbeats 1000000
set_option maxHeartbeats 1000000
namespace PX
open PySem L3 LD PC PD
/-- to the nearest whole number, halves to the even one -/
def near (g d : Int) : Int := g / d + if d < 2 * (g % d) ∨ (2 * (g % d) = d ∧ (g / d) % 2 = 1) then 1 else 0
end PX
set_option maxHeartbeats 1000000
set_option maxHeartbeats 1000000
set_option maxHeartbeats 1000000
namespace PX
open PySem L3 LD PC PD
section
variable {T : List Rat} {s : Rat}
theorem fr_half : fr (Rat.divInt 1 2) = .tup [.int 1, .int 2] := fr_of (d := 2) (by decide +kernel) (by decide +kernel)
theorem e_wmiddle {x y : Rat} {a : Nat} (hx : Zb x a) (hy : Zb y a) (ha : a ≤ 1000) (mu : List MO) : F_w_middle [fr x, fr y] mu = .ok (fr (Rat.divInt 1 2 * (x + y))) mu := by
  have e1 := fun mu => e_plus hx hy (by omega) mu
  have zh : Zb (Rat.divInt 1 2) 10 := ⟨by decide +kernel, by decide +kernel⟩
  have e2 := fun mu => e_times zh (hx.add hy) (by omega) mu
  rw [fr_half] at e2
  simp [F_w_middle, runBody, d_w_middle, e1, e2]
end
end PX
set_option maxHeartbeats 1000000
set_option maxHeartbeats 1000000
set_option maxHeartbeats 1000000
set_option maxHeartbeats 1000000
set_option maxHeartbeats 1000000
set_option maxHeartbeats 1000000
set_option maxHeartbeats 1000000
set_option maxHeartbeats 1000000
set_option maxHeartbeats 1000000
set_option maxHeartbeats 1000000
set_option maxHeartbeats 1000000
set_option maxHeartbeats 1000000
set_option maxHeartbeats 1000000
namespace PX
open PySem L3 LD PC PD
theorem sorted_turnB {a : Nat} (ha : a + a ≤ 8000) {qs : List Rat} {x : Rat} (hx : Zb x a) (hz : ∀ q ∈ qs, Zb q a) (hl : qs.length < 10000) {mu : List MO} {p0 : PV} {o3 : Option SV} {P : Fl → S → Prop}
    (hP : ∀ o3, P .nx ⟨[some (.val p0), some (.val (.lst ((insQ x qs).map fr))), some (.val (fr x)), o3, none], mu⟩) :
    W (b_w_sorted_1 ⟨[some (.val p0), some (.val (.lst (qs.map fr))), some (.val (fr x)), o3, none], mu⟩) P := by
  unfold b_w_sorted_1
  simp
  refine W_compFilter qs fr fr (fun y => !decide (x < y)) (by omega) (fun y hy => ?_) ?_
  · have e := e_below hx (hz y hy) ha
    simp [e, wipeE]
  · have hle : (qs.filter fun y => !decide (x < y)).length ≤ qs.length := List.length_filter_le _ _
    have c1 : ∀ n : Nat, cutP (qs.map fr) none (some (n : Int)) = (qs.take n).map fr := fun n => by rw [cut_take (by omega), Int.toNat_natCast, List.map_take]
    have c2 : ∀ n : Nat, cutP (qs.map fr) (some (n : Int)) none = (qs.drop n).map fr := fun n => by rw [cut_drop (by omega), Int.toNat_natCast, List.map_drop]
    have l1 : ∀ n : Nat, (qs.take n).length ≤ qs.length := fun n => by rw [List.length_take]; omega
    have l2 : ∀ n : Nat, (qs.drop n).length ≤ qs.length := fun n => by rw [List.length_drop]; omega
    have h := hP (some (.val (.int ((qs.filter fun y => !decide (x < y)).length : Nat))))
    unfold insQ at h
    simp [wipeE, -List.map_take, -List.map_drop, c1, c2]
    generalize (qs.filter fun y => !decide (x < y)).length = n at *
    refine ⟨by omega, by omega, ?_⟩
    simpa using h
theorem e_sortedB {a : Nat} (ha : a + a ≤ 8000) {qs : List Rat} (hz : ∀ q ∈ qs, Zb q a) (hl : qs.length < 5000) (mu : List MO) : F_w_sorted [.lst (qs.map fr)] mu = .ok (.lst ((rsort qs).map fr)) mu := by
  have h : W (F_w_sorted [.lst (qs.map fr)] mu) (fun v mu' => v = .lst ((rsort qs).map fr) ∧ mu' = mu) := by
    unfold F_w_sorted d_w_sorted
    simp [W_runBody]
    refine W_forL (I := fun xs st => ∃ (l1 l2 found : List Rat) (o2 o3 : Option SV), qs = l1 ++ l2 ∧ xs = l2.map fr ∧ found.Perm l1 ∧ found.Pairwise (fun a b => leQ a b = true) ∧ st = ⟨[some (.val (.lst (qs.map fr))), some (.val (.lst (found.map fr))), o2, o3, none], mu⟩)
      ⟨[], qs, [], none, none, rfl, rfl, .refl _, .nil, rfl⟩ ?_ ?_
    · intro x xs st hI
      obtain ⟨l1, l2, found, o2, o3, e1, e2, hp, hs, hst⟩ := hI
      subst hst
      cases l2 with
      | nil => cases e2
      | cons q l2 =>
        cases e2
        simp
        have hf : ∀ y ∈ found, Zb y a := fun y hy => hz y (by rw [e1]; exact List.mem_append_left _ (hp.mem_iff.mp hy))
        have hfl : found.length < 10000 := by rw [hp.length_eq]; rw [e1, List.length_append] at hl; omega
        refine sorted_turnB ha (hz q (by rw [e1]; simp)) hf hfl fun o3 => ?_
        simp only []
        refine ⟨l1 ++ [q], l2, insQ q found, _, o3, by rw [e1]; simp, rfl, ?_, insQ_sorted q found hs, rfl⟩
        exact (insQ_perm q found).trans ((hp.cons q).trans (List.perm_append_comm (l₁ := [q]) (l₂ := l1)))
    · intro st hI
      obtain ⟨l1, l2, found, o2, o3, e1, e2, hp, hs, hst⟩ := hI
      subst hst
      cases l2 with
      | cons q l2 => cases e2
      | nil =>
        rw [List.append_nil] at e1
        subst e1
        simp
        rw [rsort_uniq hp hs]
  obtain ⟨v, mu', e, rfl, rfl⟩ := h.out
  exact e
end PX
set_option maxHeartbeats 1000000
namespace PX
open PySem L3 LD PC PD
abbrev PQ := Rat × Rat
def pos (Z : List PQ) : List PQ := Z.filter fun p => decide (0 < p.2)
end PX
set_option maxHeartbeats 1000000
namespace PX
open PySem L3 LD PC PD
def top (L : Nat) (q : Rat) : Int := q.num * ((L : Int) / (q.den : Int))
end PX
set_option maxHeartbeats 1000000
set_option maxHeartbeats 1000000
set_option maxHeartbeats 1000000
namespace PD
open PySem L3
section
variable {i : Nat} {da dx : DE} {s : S} {P : Fl → S → Prop}
theorem D_dPut : WD (dPut i da dx s) P = WD (da s) (fun v s1 => (lstAt i s1).isSome = true ∧ WD (dx s1) (fun j s2 => match j, lstAt i s2 with
    | .int j, some (xs, k) => (match L2.ixN xs.length j with | some m => P .nx (k (xs.set m v)) | none => False)
    | _, _ => False)) := by
  show WD ((da s).bind _) P = _
  rw [D_bind]
  congr 1
  funext v s1
  cases e : lstAt i s1 with
  | none => simp
  | some z =>
    simp only [Option.isSome_some, true_and]
    show WD ((dx s1).bind _) P = _
    rw [D_bind]
    congr 1
    funext j s2
    cases j with
    | int j =>
      cases e2 : lstAt i s2 with
      | none => simp
      | some y =>
        obtain ⟨xs, k⟩ := y
        simp only
        cases e3 : L2.ixN xs.length j with
        | none => simp
        | some m => simp
    | _ => simp
theorem W_dPut : W (dPut i da dx s) P = W (da s) (fun v s1 => (lstAt i s1).isSome = true ∧ W (dx s1) (fun j s2 => match j, lstAt i s2 with
    | .int j, some (xs, k) => (match L2.ixN xs.length j with | some m => P .nx (k (xs.set m v)) | none => False)
    | _, _ => False)) := by
  simp only [W, WI_iff]
  exact D_dPut
@[simp ↓] theorem I_dPut : WI (dPut i da dx s) (K := ⟨P⟩) = WI (da s) (K := ⟨(fun v s1 => (lstAt i s1).isSome = true ∧ WI (dx s1) (K := ⟨(fun j s2 => match j, lstAt i s2 with
    | .int j, some (xs, k) => (match L2.ixN xs.length j with | some m => P .nx (k (xs.set m v)) | none => False)
    | _, _ => False)⟩))⟩) := W_dPut
variable {dr : DA} {B : List PV → S → Prop}
theorem D_dListUp : WD (dListUp dr s) B = WD (dr s) (fun vs s1 => match vs with | [.int j] => UpOk j ∧ B (rangeP 0 j.toNat) s1 | _ => False) := by
  show WD ((dr s).bind _) B = _
  rw [D_bind]
  congr 1
  funext vs s1
  split
  · rename_i j
    by_cases h : UpOk j
    · rw [if_pos h]; simp [h]
    · rw [if_neg h]; simp [h]
  · rename_i h
    simp
theorem W_dListUp : W (dListUp dr s) B = W (dr s) (fun vs s1 => match vs with | [.int j] => UpOk j ∧ B (rangeP 0 j.toNat) s1 | _ => False) := by
  simp only [W, WI_iff]
  exact D_dListUp
@[simp ↓] theorem I_dListUp : WI (dListUp dr s) (K := ⟨B⟩) = WI (dr s) (K := ⟨(fun vs s1 => match vs with | [.int j] => UpOk j ∧ B (rangeP 0 j.toNat) s1 | _ => False)⟩) := W_dListUp
end
end PD
set_option maxHeartbeats 1000000
set_option maxHeartbeats 1000000
set_option maxHeartbeats 1000000
set_option maxHeartbeats 1000000
set_option maxHeartbeats 1000000
set_option maxHeartbeats 1000000
set_option maxHeartbeats 1000000
set_option maxHeartbeats 1000000
namespace PX
open PySem L3 LD PC PD
section
variable {T qs : List Rat} {ps : List PV} {sm fp : PV} {b : Rat} {i a : Nat}
theorem e_is_less {x y : Rat} {a b : Nat} (h1 : Zb x a) (h2 : Zb y b) (hab : a + b ≤ 8000) (mu : List MO) : F_is_less [.rat x, .rat y] mu = .ok (.bl (decide (x < y))) mu := by
  have c1 : ib x.num + ib (y.den : Int) ≤ 1000000 := by have := h1.ib_num; have := h2.ib_den; omega
  have c2 : ib y.num + ib (x.den : Int) ≤ 1000000 := by have := h2.ib_num; have := h1.ib_den; omega
  have l3 : (x.num * y.den < y.num * x.den) ↔ x < y := (Rat.lt_iff x y).symm
  simp [F_is_less, runBody, d_is_less, c1, c2, l3]
end
end PX
set_option maxHeartbeats 1000000
set_option maxHeartbeats 1000000
namespace PX
open PySem L3 LD PC PD
abbrev P2 := Rat × Rat
def tq (p : P2) : PV := .tup [.rat p.1, .rat p.2]
inductive PP : List P2 → List PV → Prop where
  | nil : PP [] []
  | cons {p : P2} {ps : List P2} {a b : PV} {ts : List PV} : Is p.1 a → Is p.2 b → PP ps ts → PP (p :: ps) (.tup [a, b] :: ts)
theorem PP.len {ps : List P2} {ts : List PV} (h : PP ps ts) : ts.length = ps.length := by
  induction h with
  | nil => rfl
  | cons _ _ _ ih => simp [ih]
theorem PP.mem {ps : List P2} {ts : List PV} (h : PP ps ts) : ∀ t ∈ ts, ∃ p a b, t = .tup [a, b] ∧ Is (p : P2).1 a ∧ Is p.2 b := by
  induction h with
  | nil => intro t ht; cases ht
  | cons h1 h2 _ ih =>
    intro t ht
    rcases List.mem_cons.mp ht with e | e
    · exact ⟨_, _, _, e, h1, h2⟩
    · exact ih t e
def tv : PV → PV
  | .tup [a, b] => .tup [.rat (val a), .rat (val b)]
  | _ => .non
theorem PP.tvs {ps : List P2} {ts : List PV} (h : PP ps ts) : ts.map tv = ps.map tq := by
  induction h with
  | nil => rfl
  | cons h1 h2 _ ih => simp [tv, tq, ih, val_is h1, val_is h2]
theorem e_is_pair {x y : Rat} {a b : PV} (ha : Is x a) (hb : Is y b) (mu : List MO) : F_is_pair [.tup [a, b]] mu = .ok (.bl true) mu := by
  have e1 := e_is_number ha mu
  have e2 := e_is_number hb mu
  simp [F_is_pair, runBody, d_is_pair, e1, e2]
theorem scan2 {sm : PV} (mu : List MO) : ∀ (xs : List PV) (o1 o2 : Option SV), (∀ x ∈ xs, ∃ (i : Int) (p : P2) (a b : PV), x = .tup [.int i, .tup [a, b]] ∧ Is p.1 a ∧ Is p.2 b) →
    ∃ o1' o2', forL (gT 2 (gCons (gN 1) (gCons (gN 2) gNil))) b_need_pairs_1 xs ⟨[some (.val sm), o1, o2, none, none], mu⟩ = .ok .nx ⟨[some (.val sm), o1', o2', none, none], mu⟩
  | [], o1, o2, _ => ⟨o1, o2, rfl⟩
  | x :: xs, o1, o2, h => by
    obtain ⟨i, p, a, b, rfl, ha, hb⟩ := h x List.mem_cons_self
    obtain ⟨o1', o2', ih⟩ := scan2 (sm := sm) mu xs (some (.val (.int i))) (some (.val (.tup [a, b]))) fun y hy => h y (List.mem_cons_of_mem _ hy)
    refine ⟨o1', o2', ?_⟩
    have e := e_is_pair ha hb mu
    rw [← ih]
    show forL _ _ (_ :: xs) _ = _
    conv => lhs; unfold forL
    simp [b_need_pairs_1, e]
theorem enum_pp {ps : List P2} {ts : List PV} (h : PP ps ts) : ∀ x ∈ enumP ts, ∃ (i : Int) (p : P2) (a b : PV), x = .tup [.int i, .tup [a, b]] ∧ Is p.1 a ∧ Is p.2 b := fun x hx => by
  obtain ⟨i, hi⟩ := List.mem_iff_getElem?.mp hx
  obtain ⟨y, hy, rfl⟩ := enumP_get hi
  obtain ⟨p, a, b, rfl, h1, h2⟩ := h.mem y (List.mem_of_getElem? hy)
  exact ⟨i, p, a, b, rfl, h1, h2⟩
theorem e_need_pairs {ps : List P2} {ts : List PV} {sm : PV} (h : PP ps ts) (hs : sm = .lst ts ∨ sm = .tup ts) (hl : ps.length ≤ 1000) (mu : List MO) : F_need_pairs [sm] mu = .ok (.lst (ps.map tq)) mu := by
  have hlen := h.len
  obtain ⟨o1, o2, e1⟩ := scan2 (sm := sm) mu (enumP ts) none none (enum_pp h)
  have e2 := compL_map (t := gT 2 (gCons (gN 3) (gCons (gN 4) gNil))) (tt := dYes) (te := e_need_pairs_2) (vs := [3, 4]) (s0 := ⟨[some (.val sm), o1, o2, none, none], mu⟩) (f := tv) ts [] (fun x hx => by
    obtain ⟨p, a, b, rfl, ha, hb⟩ := h.mem x hx
    have e3 := e_ratio_of ha mu
    have e4 := e_ratio_of hb mu
    refine ⟨_, ⟨[some (.val sm), o1, o2, some (.val a), some (.val b)], mu⟩, rfl, rfl, ?_, rfl⟩
    simp [e_need_pairs_2, e3, e4, tv, val_is ha, val_is hb]) (by simp; omega)
  rw [h.tvs] at e2
  have er : F_is_row [sm] mu = .ok (.bl true) mu := by
    have : (ts.length : Int) ≤ 1000 := by omega
    rcases hs with rfl | rfl <;> simp [F_is_row, runBody, d_is_row, this]
  rcases hs with rfl | rfl
  · simp [F_need_pairs, runBody, d_need_pairs, er, e1, e2, wipeE]
  · simp [F_need_pairs, runBody, d_need_pairs, er, e1, e2, wipeE]
end PX
set_option maxHeartbeats 1000000
namespace PX
open PySem L3 LD PC PD
/-- sizes for sums of pairs -/
structure Ps (D B : Nat) (ps : List P2) : Prop where
  s1 : Sm D B
  s2 : Sm (D * D) (B * B)
  z : ∀ p ∈ ps, Zd D B p.1 ∧ Zd D B p.2
  len : ps.length ≤ 1000
  lo : B * D ≤ 2 ^ 400
  lo2 : D ≤ 2 ^ 400
section
variable {D B : Nat} {ps : List P2}
theorem Ps.zb (P : Ps D B ps) : ∀ p ∈ ps, Zb p.1 400 ∧ Zb p.2 400 := fun p hp => ⟨(P.z p hp).1.zb P.s1.pos P.lo P.lo2, (P.z p hp).2.zb P.s1.pos P.lo P.lo2⟩
end
end PX
set_option maxHeartbeats 1000000
namespace PX
open PySem L3 LD PC PD
section
variable {D B : Nat} {ps : List P2}
theorem e_items {xs : List PV} (hne : xs ≠ []) (mu : List MO) : F_need_items [.lst xs] mu = .ok .non mu := by
  have hx : ((xs.length : Int) == 0) = false := by simpa using hne
  simp [F_need_items, runBody, d_need_items, hx]
end
end PX
set_option maxHeartbeats 1000000
namespace PX
open PySem L3 LD PC PD
theorem comp_eq {α : Type} {tg : DG} {te : DE} {vs : List Nat} {s : S} (l : List α) (g f : α → PV) (hl : l.length ≤ 16777216) (h : ∀ a ∈ l, W (tg (g a) s) fun _ s1 => W (te s1) fun y s3 => y = f a ∧ wipeS vs s3 = s) : compL tg dYes te vs (l.map g) [] s = .ok (l.map f) s := by
  obtain ⟨v, t, e, rfl, rfl⟩ := (W_compMap (B := fun ys t => ys = l.map f ∧ t = s) l g f hl h ⟨rfl, rfl⟩).out
  exact e
def dq (p : P2) : PV := .tup [fr p.1, fr p.2]
def gq (p : P2) : PV := .tup [gv p.1, gv p.2]
end PX
set_option maxHeartbeats 1000000
namespace PX
open PySem L3 LD PC PD
variable {Fq : List MO → Prop}
theorem told_ok {l : DE} {env : List (Option SV)} {mu : List MO} {v : PV} {s' : S} (h : l ⟨capt env, mu⟩ = .ok v s') : dLam F_w_told_k28 l ⟨env, mu⟩ = .ok (.lst [v]) ⟨env, s'.mu⟩ := by
  unfold dLam
  rw [pickR_eq (r := .ok (.lst [v]) s'.mu)]
  intro t
  simp [F_w_told_k28, runBody, d_w_told_k28, b_w_told_k28_2, dAct, runLam, h]
def xs28 : List Str := ["BadInput", "Absent", "Undefined", "BadNumber", "BadSample", "BadWeights", "BadPairs", "BadShare", "BadRule", "BadAmount", "BadEdges", "BadSummary", "Empty", "TooFew", "NotThere", "DividedByZero", "NoSpread", "Impossible", "Unbounded", "TooMany"]
theorem told_exn {l : DE} {env : List (Option SV)} {mu : List MO} {c : Str} {ns : List Str} {ys : List PV} {v : PV} {s' : S} {mu2 : List MO} (h : l ⟨capt env, mu⟩ = .exn (.exc c ns ys) s') (hc : c ∈ xs28) (hw : F_w_word [.exc c ns ys] s'.mu = .ok v mu2) : dLam F_w_told_k28 l ⟨env, mu⟩ = .ok v ⟨env, mu2⟩ := by
  unfold dLam
  rw [pickR_eq (r := .ok v mu2)]
  intro t
  unfold xs28 at hc
  simp only [F_w_told_k28, runBody, d_w_told_k28, b_w_told_k28_2, h_w_told_k28_1, dAct, runLam, h, dTryAs, dSeq]
  simp [hc, hw, dAct, runLam, h, wipeE]
theorem word_spread (mu : List MO) : F_w_word [.exc "NoSpread" [] []] mu = .ok (.tup [.str "spread", .non]) mu := by kernel_rfl
theorem okD_dq (p : P2) : okD 7 (dq p) = true := by
  simp [dq, fr, okD, okDL]
theorem okDL_dqs : ∀ ps : List P2, okDL 7 (ps.map dq) = true
  | [] => rfl
  | p :: ps => by
    show (okD 7 (dq p) && okDL 7 (ps.map dq)) = true
    rw [okD_dq, okDL_dqs ps]
    rfl
theorem okD_dqs (ps : List P2) : okD 8 (.lst (ps.map dq)) = true := okDL_dqs ps
theorem flat_dq (p : P2) : flatP (dq p) = true := by simp [dq, fr, flatP, flatL]
theorem eqP_dqs_nil (ps : List P2) : eqP (.lst (ps.map dq)) (.lst []) = ps.isEmpty := by
  unfold eqP; rw [eqPL_nil]; cases ps <;> rfl
def noOwn : Option SV → Prop
  | some (.own _) => False
  | _ => True
theorem turnsN {ns : List Int} {b : DS} {m : Int} (h4 : m ≤ 4) (Rr : List (Option SV) → Prop) {o1 : Option SV} {rest : List (Option SV)} {mu : List MO} (h0 : Rr rest) (hf : flatMs mu = true) {P : Fl → S → Prop}
    (hb : ∀ (i : Nat) (rest : List (Option SV)) (mu : List MO), i ≤ 4 → Rr rest → flatMs mu = true → W (b ⟨some (.val (.frz (ns.map .int))) :: some (.val (.int (i : Int))) :: rest, mu⟩) fun f s' => f = .nx ∧ ∃ rest' mu', Rr rest' ∧ flatMs mu' = true ∧ s' = ⟨some (.val (.frz (ns.map .int))) :: some (.val (.int (i : Int))) :: rest', mu'⟩)
    (h1 : noOwn o1) (hP : ∀ o1 rest mu, noOwn o1 → Rr rest → flatMs mu = true → P .nx ⟨some (.val (.frz (ns.map .int))) :: o1 :: rest, mu⟩) :
    W (forL (gN 1) b (rangeP 0 m.toNat) ⟨some (.val (.frz (ns.map .int))) :: o1 :: rest, mu⟩) P := by
  refine W_forL (I := fun xs s => ∃ (is : List Nat) (o1 : Option SV) (rest : List (Option SV)) (mu : List MO), xs = is.map (fun i : Nat => PV.int (i : Int)) ∧ (∀ i ∈ is, i ≤ 4) ∧ noOwn o1 ∧ Rr rest ∧ flatMs mu = true ∧ s = ⟨some (.val (.frz (ns.map .int))) :: o1 :: rest, mu⟩) ?_ ?_ ?_
  · refine ⟨List.range m.toNat, o1, rest, mu, ?_, fun i hi => by have := List.mem_range.mp hi; omega, h1, h0, hf, rfl⟩
    unfold rangeP
    refine List.map_congr_left fun k _ => ?_
    rw [Int.zero_add]
  · intro x xs s hI
    obtain ⟨is, o1, rest, mu, e, hi, hn1, hr, hf, hs⟩ := hI
    subst hs
    cases is with
    | nil => cases e
    | cons i is =>
      cases e
      refine (hb i rest mu (hi i List.mem_cons_self) hr hf).mono fun f s' h => ?_
      obtain ⟨hf1, rest', mu', hr', hf', hs'⟩ := h
      subst hf1 hs'
      exact ⟨is, some (.val (.int (i : Int))), rest', mu', rfl, fun j hj => hi j (List.mem_cons_of_mem _ hj), trivial, hr', hf', rfl⟩
  · intro s hI
    obtain ⟨is, o1, rest, mu, e, hi, hn1, hr, hf, hs⟩ := hI
    subst hs
    exact hP o1 rest mu hn1 hr hf
theorem own_dots (a b c d : PV) {o5 o6 : Option SV} (xs : List PV) (h5 : noOwn o5) (h6 : noOwn o6) : ownIn [3] [some (SV.val a), some (.val b), some (.val c), some (.own xs), some (.val d), o5, o6] = true := by
  rcases o5 with _ | ⟨_ | _⟩ <;> rcases o6 with _ | ⟨_ | _⟩ <;> first | rfl | exact h5.elim | exact h6.elim
def P60 (p : P2) : Prop := Zd 60 30 p.1 ∧ Zd 60 30 p.2
section
variable {mu : List MO} {n k : Nat} {Q : PV → List MO → Prop}
theorem w_dots {a b : Nat} (h : SrcR Fq mu n k) (hk : k + 1 + 8 * b ≤ 2 ^ 49) (hab : a ≤ b) (hb : b ≤ 1000) (i : ∀ (ps : List P2) (mu' : List MO), (∀ p ∈ ps, P60 p) → a ≤ ps.length → ps.length ≤ b → SrcR Fq mu' n (k + 1 + 8 * b) → Q (.lst (ps.map dq)) mu') : W (F_w_dots [.ptr n, .int a, .int b] mu) Q := by
  unfold F_w_dots d_w_dots
  simp [W_runBody]
  refine w_next (m := (b : Int) - (a : Int) + 1) h (by omega) (by omega) (by
    have := ib_le (i := (b : Int) - (a : Int) + 1) (b := 20) (by omega)
    omega) fun r m1 a1 a2 h1 => ?_
  have hr : (-4611686018427387904 : Int) ≤ (a : Int) + r ∧ (a : Int) + r < 4611686018427387904 := by omega
  simp [hr]
  have hlen : (rangeP 0 ((a : Int) + r).toNat).length = ((a : Int) + r).toNat := by simp [rangeP]
  refine W_forL (I := fun xs s => ∃ ps mu k' o4 o5 o6, s = ⟨[some (.val (.ptr n)), some (.val (.int a)), some (.val (.int b)), some (.own (ps.map dq)), o4, o5, o6], mu⟩ ∧ SrcR Fq mu n k' ∧ k' + 8 * xs.length ≤ k + 1 + 8 * b ∧ ps.length + xs.length = ((a : Int) + r).toNat ∧ (∀ p ∈ ps, P60 p) ∧ noOwn o5 ∧ noOwn o6)
    ⟨[], m1, k + 1, none, none, none, rfl, h1, by omega, by simp [rangeP], (fun q hq => by cases hq), trivial, trivial⟩ ?_ ?_
  · rintro x xs _ ⟨ps, mu, k', o4, o5, o6, rfl, hS, hk', hl, hz, n5, n6⟩
    simp only [List.length_cons] at hk' hl
    have hq : ps.length < 16777216 := by omega
    unfold b_w_dots_1
    have one : ∀ (m : Int) (f : P2 → Rat) (j : Int) (o5 : Option SV) (mu : List MO) (k1 : Nat) (P : PV → S → Prop), noOwn o5 → (∀ p ∈ ps, Zd 60 30 (f p) ∧ ∀ s, fIx (dq p) (.int j) s = .ok (fr (f p)) s) → 0 < m → ib m ≤ 9000 → SrcR Fq mu n k1 → k1 + 4 ≤ k + 1 + 8 * b →
        (∀ q mu', Zd 60 30 q → SrcR Fq mu' n (k1 + 4) → P (fr q) ⟨[some (.val (.ptr n)), some (.val (.int a)), some (.val (.int b)), some (.own (ps.map dq)), some (.val x), o5, o6], mu'⟩) →
        W ((dBor [3] (dIf (dAndT (dTru (dBin (gEq true) (dVar 3) (dLst dNil))) (dTru (dBin (gEq false) (dFnS F_w_next (dCons (dVar 0) (dCons (dC (.int m)) dNil))) (dC (.int 0))))) (dBin fIx (dFnS F_w_pick (dCons (dVar 0) (dCons (dVar 3) dNil))) (dC (.int j))) (dFnS F_w_drawn (dCons (dVar 0) dNil))) ⟨[some (.val (.ptr n)), some (.val (.int a)), some (.val (.int b)), some (.own (ps.map dq)), some (.val x), o5, o6], mu⟩)) P := by
      intro m f j o5 mu k1 P n5 hf hm hm9 hS hk1 fin
      simp [froz1, own_dots _ _ _ _ _ n5 n6]
      by_cases e : ps = []
      · subst e
        simp [okD, okDL, eqP, eqPL]
        refine w_drawn hS (by omega) fun q mu' hq' hS' => ?_
        exact ⟨flat_fr q, hS'.flat, by simpa using fin q mu' hq' (hS'.le (by omega))⟩
      · have he : eqP (.lst (ps.map dq)) (.lst []) = false := by rw [eqP_dqs_nil]; simpa using e
        simp [okD_dqs, okD_nil, he]
        refine w_next hS (by omega) hm hm9 fun r2 m2 b1 b2 h2 => ?_
        simp
        split
        · refine w_pick h2 (by omega) (by simpa using e) (by rw [List.length_map]; omega) fun y m3 hy h3 => ?_
          obtain ⟨p, hp, rfl⟩ := List.mem_map.mp hy
          obtain ⟨z1, z2⟩ := hf p hp
          simp [z2, -fIx]
          exact ⟨flat_fr _, h3.flat, by simpa using fin (f p) m3 z1 (h3.le (by omega))⟩
        · refine w_drawn h2 (by omega) fun q m3 hq' h3 => ?_
          exact ⟨flat_fr q, h3.flat, by simpa using fin q m3 hq' (h3.le (by omega))⟩
    show W (dSeq _ _ ⟨[some (.val (.ptr n)), some (.val (.int a)), some (.val (.int b)), some (.own (ps.map dq)), some (.val x), o5, o6], mu⟩) _
    rw [W_dSeq, W_dSet]
    refine one 4 (·.1) 0 o5 mu k' _ n5 (fun p hp => ⟨(hz p hp).1, fun s => rfl⟩) (by decide) (by decide) hS (by omega) fun q1 m1 z1 h1 => ?_
    simp only [setE, List.set]
    rw [W_dSeq, W_dSet]
    refine one 5 (·.2) 1 (some (.val (fr q1))) m1 (k' + 4) _ trivial (fun p hp => ⟨(hz p hp).2, fun s => rfl⟩) (by decide) (by decide) h1 (by omega) fun q2 m2 z2 h2 => ?_
    have f2 : flatP (.tup [fr q1, fr q2]) = true := flat_dq (q1, q2)
    simp [setE, f2, h2.flat, hq]
    refine ⟨ps ++ [(q1, q2)], m2, k' + 4 + 4, some (.val x), some (.val (fr q1)), some (.val (fr q2)), ⟨by simp [dq], rfl⟩, h2, by omega, by simp; omega, (fun x y hp => ?_), trivial, trivial⟩
    rcases List.mem_append.mp hp with hp | hp
    · exact hz (x, y) hp
    · rw [List.mem_singleton.mp hp]; exact ⟨z1, z2⟩
  · rintro _ ⟨ps, mu, k', o4, o5, o6, rfl, hS, hk', hl, hz, _, _⟩
    simp [froz1]
    simp at hl hk'
    exact i ps mu hz (by omega) (by omega) (hS.le (by omega))
end
theorem e_paired {ps : List P2} (hz : ∀ p ∈ ps, P60 p) (hl : ps.length ≤ 1000) (mu : List MO) : F_w_paired [.lst (ps.map dq)] mu = .ok (.lst (ps.map gq)) mu := by
  have s3 : Sm 60 30 := ⟨by decide, by decide +kernel, by decide +kernel⟩
  have e := comp_eq (tg := gT 2 (gCons (gN 1) (gCons (gN 2) gNil))) (te := e_w_paired_1) (vs := [1, 2]) (s := ⟨[some (.val (.lst (ps.map dq))), none, none], mu⟩) ps dq gq (by omega) (fun p hp => by
    have g := z_given s3 (qs := [p.1, p.2]) (fun q hq => by
      rcases List.mem_cons.mp hq with h | h
      · rw [h]; exact (hz p hp).1
      · rw [List.mem_singleton.mp h]; exact (hz p hp).2) (by show 2 ≤ 10000; decide) mu
    simp only [List.map_cons, List.map_nil] at g
    simp [dq, e_w_paired_1, g, gq, wipeE])
  simp [F_w_paired, runBody, d_w_paired, e, wipeE, -List.map_map]
theorem pp_gq : ∀ ps : List P2, PP ps (ps.map gq)
  | [] => .nil
  | p :: ps => .cons (gv_is p.1) (gv_is p.2) (pp_gq ps)
end PX
set_option maxHeartbeats 1000000
namespace PX
open PySem L3 LD PC PD
variable {Fq : List MO → Prop}
theorem perm_map {α β : Type} {f : α → β} : ∀ {ys zs : List β}, ys.Perm zs → ∀ l : List α, zs = l.map f → ∃ l' : List α, l'.Perm l ∧ ys = l'.map f := fun {ys zs} h => by
  induction h with
  | nil => intro l e; cases l with
    | nil => exact ⟨[], .nil, rfl⟩
    | cons a l => cases e
  | cons x h ih =>
    intro l e
    cases l with
    | nil => cases e
    | cons a l =>
      cases e
      obtain ⟨l', p, rfl⟩ := ih l rfl
      exact ⟨a :: l', p.cons a, rfl⟩
  | swap x y h =>
    intro l e
    match l with
    | [] => cases e
    | [a] => cases e
    | a :: b :: l => cases e; exact ⟨b :: a :: l, .swap _ _ _, rfl⟩
  | trans h1 h2 ih1 ih2 =>
    intro l e
    obtain ⟨l1, p1, e1⟩ := ih2 l e
    obtain ⟨l2, p2, e2⟩ := ih1 l1 e1
    exact ⟨l2, p2.trans p1, e2⟩
section
variable {mu : List MO} {n k : Nat} {Q : PV → List MO → Prop}
theorem w_mixedP {α : Type} {f : α → PV} {l : List α} (h : SrcR Fq mu n k) (hk : k + l.length ≤ 2 ^ 49) (hl : l.length ≤ 10000) (i : ∀ (l' : List α) (mu' : List MO), l'.Perm l → SrcR Fq mu' n (k + l.length) → Q (.lst (l'.map f)) mu') : W (F_w_mixed [.ptr n, .lst (l.map f)] mu) Q := by
  obtain ⟨ys, mu', e, h1, h2⟩ := mixed_ok (xs := l.map f) h (by rw [List.length_map]; exact hk) (by rw [List.length_map]; exact hl)
  obtain ⟨l', p, rfl⟩ := perm_map h1 l rfl
  rw [List.length_map] at h2
  exact W.of e (i l' mu' p h2)
end
section
variable {ps qs : List P2}
theorem Ps.perm {D B : Nat} (P : Ps D B qs) (h : ps.Perm qs) : Ps D B ps := ⟨P.s1, P.s2, fun p hp => P.z p (h.mem_iff.mp hp), by rw [h.length_eq]; exact P.len, P.lo, P.lo2⟩
end
def kq (p : P2) : PV := .lst [kp p.1, kp p.2]
theorem e_keptP (p : P2) (mu : List MO) : F_w_kept [gq p] mu = .ok (kq p) mu := e_kept (qs := [p.1, p.2]) (.inr rfl) (by show 2 ≤ 1000; decide) mu
theorem okDL_kqs : ∀ ps : List P2, okDL 7 (ps.map kq) = true
  | [] => rfl
  | p :: ps => by
    show (okDL 6 [kp p.1, kp p.2] && okDL 7 (ps.map kq)) = true
    rw [okDL_kqs ps]
    have a : ∀ q : Rat, okD 6 (kp q) = true := fun q => by
      unfold kp
      by_cases h : 1 < q.den
      · rw [if_pos h]; simp [fr, okD, okDL]
      · rw [if_neg h]; rfl
    show ((okD 6 (kp p.1) && (okD 6 (kp p.2) && true)) && true) = true
    rw [a, a]
    rfl
end PX
set_option maxHeartbeats 1000000
namespace PX
open PySem L3 LD PC PD
theorem capt_get {env : List (Option SV)} : ∀ {i : Nat} {v : PV}, env[i]? = some (some (.val v)) → (capt env)[i]? = some (some (.val v)) := by
  induction env with
  | nil => intro i v h; simp at h
  | cons o r ih =>
    intro i v h
    cases i with
    | zero =>
      simp at h
      subst h
      rfl
    | succ i =>
      simp at h
      have := ih h
      match o with
      | some (.val w) => simpa using this
      | some (.own w) => simpa using this
      | none => simpa using this
theorem var_capt {env : List (Option SV)} {i : Nat} {v : PV} {mu : List MO} (h : env[i]? = some (some (.val v))) : dVar i ⟨capt env, mu⟩ = .ok v ⟨capt env, mu⟩ := by
  have := capt_get h
  simp [dVar, this]
end PX
set_option maxHeartbeats 1000000
namespace PX
open PySem L3 LD PC PD
theorem is_int (i : Int) : Is (i : Rat) (.int i) := .inr ⟨rfl, rfl⟩
end PX
set_option maxHeartbeats 1000000
namespace PX
open PySem L3 LD PC PD
@[local simp] theorem ne_sh : (PySem.Str.ofString "own_slope" = PySem.Str.ofString "own_height") = False := eq_false (by decide +kernel)
/-- a line in the store -/
def lnO (b h : Rat) : MO := .nst "Line" ["own_slope", "own_height"] [.rat b, .rat h]
theorem get_last {mu : List MO} {x : MO} : (mu ++ [x])[mu.length]? = some x := by simp
theorem e_line_init {b h : Rat} {p q : PV} (hp : Is b p) (hq : Is h q) (mu : List MO) : F_Line___init__ [.ptr mu.length, p, q] (mu ++ [.nst "Line" [] []]) = .ok .non (mu ++ [lnO b h]) := by
  have e1 := fun m => e_need_number hp m
  have e2 := fun m => e_need_number hq m
  have e3 := fun m => e_ratio_of hp m
  have e4 := fun m => e_ratio_of hq m
  simp [F_Line___init__, runBody, d_Line___init__, e1, e2, e3, e4, lnO, putN, putV]
theorem e_slope {b h : Rat} {mu : List MO} {n : Nat} (hn : mu[n]? = some (lnO b h)) : F_Line_slope [.ptr n] mu = .ok (.rat b) mu := by
  simp [F_Line_slope, runBody, d_Line_slope, hn, lnO, L3.getV, optR]
theorem e_height {b h : Rat} {mu : List MO} {n : Nat} (hn : mu[n]? = some (lnO b h)) : F_Line_height [.ptr n] mu = .ok (.rat h) mu := by
  simp [F_Line_height, runBody, d_Line_height, hn, lnO, L3.getV, optR]
theorem e_seen {b h : Rat} {mu : List MO} {n : Nat} (hn : mu[n]? = some (lnO b h)) : F_w_seen [.ptr n] mu = .ok (.tup [fr b, fr h]) mu := by
  have e1 := e_slope hn
  have e2 := e_height hn
  have e3 := fun q => e_taken q mu
  simp [F_w_seen, runBody, d_w_seen, hn, e1, e2, e3, lnO]
theorem Zb.sub {x y : Rat} {a b : Nat} (h1 : Zb x a) (h2 : Zb y b) : Zb (x - y) (a + b + 1) := by
  have h3 : Zb (-y) b := ⟨by rw [Rat.neg_num, Int.natAbs_neg]; exact h2.1, by rw [Rat.neg_den]; exact h2.2⟩
  have h4 := h1.add h3
  rw [← Rat.sub_eq_add_neg] at h4
  exact h4
end PX
set_option maxHeartbeats 1000000
set_option maxHeartbeats 1000000
set_option maxHeartbeats 1000000
set_option maxHeartbeats 1000000
set_option maxHeartbeats 1000000
set_option maxHeartbeats 1000000
namespace PX
open PySem L3 LD PC PD
variable {Fq Fr : List MO → Prop} {mu : List MO} {n k m : Nat} {b h : Rat}
theorem src_app (hs : SrcR Fq mu n k) {o : MO} (hf : flatM o = true) (h1 : Fr (mu ++ [o])) (h2 : ∀ m v, Fr m → Fr (m.set n v)) : SrcR Fr (mu ++ [o]) n k := by
  obtain ⟨⟨c, k0, d, e1, e2, e3⟩, hfl, _, _⟩ := hs
  have hn : n < mu.length := (List.getElem?_eq_some_iff.mp e1).1
  refine ⟨⟨c, k0, d, by rw [List.getElem?_append_left hn]; exact e1, e2, e3⟩, ?_, h1, h2⟩
  unfold flatMs at hfl ⊢
  rw [List.all_append, hfl]
  simp only [List.all_cons, List.all_nil, hf, Bool.and_true]
end PX
set_option maxHeartbeats 1000000
set_option maxHeartbeats 1000000
set_option maxHeartbeats 1000000
set_option maxHeartbeats 1000000
set_option maxHeartbeats 1000000
set_option maxHeartbeats 1000000
set_option maxHeartbeats 1000000
set_option maxHeartbeats 1000000
set_option maxHeartbeats 1000000
set_option maxHeartbeats 1000000
set_option maxHeartbeats 1000000
set_option maxHeartbeats 1000000
namespace PX
open PySem L3 LD PC PD
abbrev So (l : List Rat) : Prop := l.Pairwise fun a b => leQ a b = true
/-- f stands ahead of what is left: r of the near list, t of the far list -/
structure J30 (w f r t : List Rat) : Prop where
  perm : (f ++ r ++ t).Perm w
  sf : So f
  sr : So r
  st : So t
  fr : ∀ x ∈ f, ∀ y ∈ r, leQ x y = true
  ft : ∀ x ∈ f, ∀ y ∈ t, leQ x y = true
theorem J30.far {w f r t : List Rat} {v y : Rat} (j : J30 w f (v :: r) (y :: t)) (h : y < v) : J30 w (f ++ [y]) (v :: r) t := by
  obtain ⟨s1, s2⟩ := List.pairwise_cons.mp j.st
  obtain ⟨s3, s4⟩ := List.pairwise_cons.mp j.sr
  refine ⟨?_, ?_, j.sr, s2, ?_, ?_⟩
  · refine List.Perm.trans ?_ j.perm
    simp only [List.append_assoc]
    refine List.Perm.append_left f ?_
    show ([y] ++ (v :: r ++ t)).Perm ((v :: r) ++ y :: t)
    exact (List.perm_middle (l₁ := v :: r) (a := y) (l₂ := t)).symm
  · exact List.pairwise_append.mpr ⟨j.sf, List.pairwise_singleton _ _, fun x hx z hz => by rw [List.mem_singleton.mp hz]; exact j.ft x hx y List.mem_cons_self⟩
  · intro x hx z hz
    rcases List.mem_append.mp hx with q | q
    · exact j.fr x q z hz
    · rw [List.mem_singleton.mp q]
      have h1 : leQ y v = true := decide_eq_true (Rat.le_of_lt h)
      rcases List.mem_cons.mp hz with rfl | z2
      · exact h1
      · exact leQ_tr y v z h1 (s3 z z2)
  · intro x hx z hz
    rcases List.mem_append.mp hx with q | q
    · exact j.ft x q z (List.mem_cons_of_mem _ hz)
    · rw [List.mem_singleton.mp q]; exact s1 z hz
theorem J30.near {w f r t : List Rat} {v : Rat} (j : J30 w f (v :: r) t) (h : ∀ y ∈ t, leQ v y = true) : J30 w (f ++ [v]) r t := by
  obtain ⟨s3, s4⟩ := List.pairwise_cons.mp j.sr
  refine ⟨?_, ?_, s4, j.st, ?_, ?_⟩
  · refine List.Perm.trans ?_ j.perm
    simp only [List.append_assoc]
    exact .refl _
  · exact List.pairwise_append.mpr ⟨j.sf, List.pairwise_singleton _ _, fun x hx z hz => by rw [List.mem_singleton.mp hz]; exact j.fr x hx v List.mem_cons_self⟩
  · intro x hx z hz
    rcases List.mem_append.mp hx with q | q
    · exact j.fr x q z (List.mem_cons_of_mem _ hz)
    · rw [List.mem_singleton.mp q]; exact s3 z hz
  · intro x hx z hz
    rcases List.mem_append.mp hx with q | q
    · exact j.ft x q z hz
    · rw [List.mem_singleton.mp q]; exact h z hz
theorem J30.done {w f t : List Rat} (j : J30 w f [] t) : f ++ t = rsort w := by
  refine rsort_uniq ?_ (List.pairwise_append.mpr ⟨j.sf, j.st, j.ft⟩)
  have := j.perm
  rwa [List.append_nil] at this
theorem e_joined {a b : List Rat} {n : Nat} (sa : So a) (sb : So b) (za : ∀ q ∈ a, Zb q n) (zb : ∀ q ∈ b, Zb q n) (hn : n ≤ 4000) (hl : a.length + b.length ≤ 10000) (mu : List MO) :
    F_joined [.lst (a.map .rat), .lst (b.map .rat)] mu = .ok (.lst ((rsort (a ++ b)).map .rat)) mu := by
  have h : W (F_joined [.lst (a.map .rat), .lst (b.map .rat)] mu) (fun v mu' => v = .lst ((rsort (a ++ b)).map .rat) ∧ mu' = mu) := by
    unfold F_joined d_joined
    simp [W_runBody]
    refine W_forL (I := fun xs s => ∃ r k f o2, xs = r.map PV.rat ∧ s = ⟨[some (.val (.lst (a.map .rat))), some (.val (.lst (b.map .rat))), o2, some (.own (f.map .rat)), some (.val (.int ((k : Nat) : Int)))], mu⟩ ∧ k ≤ b.length ∧ (∀ q ∈ r, q ∈ a) ∧ f.length + r.length + (b.length - k) = a.length + b.length ∧ J30 (a ++ b) f r (b.drop k)) ⟨a, 0, [], none, rfl, rfl, Nat.zero_le _, fun q hq => hq, by simp, ⟨.refl _, .nil, sa, sb, (fun x hx => by cases hx), (fun x hx => by cases hx)⟩⟩ ?_ ?_
    · rintro x ys s ⟨r, k, f, o2, e, rfl, hk, hr, hlen, j⟩
      cases r with
      | nil => cases e
      | cons v r =>
        cases e
        unfold b_joined_3
        simp
        refine W_whileL (I := fun m s => ∃ k f, s = ⟨[some (.val (.lst (a.map .rat))), some (.val (.lst (b.map .rat))), some (.val (.rat v)), some (.own (f.map .rat)), some (.val (.int ((k : Nat) : Int)))], mu⟩ ∧ b.length + 1 ≤ m + k ∧ k ≤ b.length ∧ f.length + (r.length + 1) + (b.length - k) = a.length + b.length ∧ J30 (a ++ b) f (v :: r) (b.drop k)) ⟨k, f, rfl, by omega, hk, hlen, j⟩ ?_ ?_
        · rintro m s ⟨k, f, rfl, hm, hk, hlen, j⟩
          unfold t_joined_1
          by_cases c : k < b.length
          · have at_ : L2.atI (b.map PV.rat) (k : Int) = some (.rat b[k]) := by
              rw [at_of (by rw [List.length_map]; exact c), List.getElem_map]
            have hf : f.length < 16777216 := by omega
            have el := e_is_less (zb b[k] (List.getElem_mem c)) (za v (hr v List.mem_cons_self)) (by omega) mu
            have ed : b.drop k = b[k] :: b.drop (k + 1) := List.drop_eq_getElem_cons c
            by_cases c2 : b[k] < v
            · rw [ed] at j
              have j2 := j.far c2
              simp [c, at_, el, c2, b_joined_2, hf]
              exact ⟨k + 1, f ++ [b[k]], ⟨by simp, by omega⟩, by omega, by omega, by simp; omega, j2⟩
            · have j2 : J30 (a ++ b) (f ++ [v]) r (b.drop k) := j.near fun y hy => by
                rw [ed] at hy
                have h1 : leQ v b[k] = true := decide_eq_true (Rat.not_lt.mp c2)
                rcases List.mem_cons.mp hy with rfl | z
                · exact h1
                · have st := j.st
                  rw [ed] at st
                  exact leQ_tr v b[k] y h1 ((List.pairwise_cons.mp st).1 y z)
              simp [c, at_, el, c2]
              exact ⟨hf, r, rfl, k, f ++ [v], ⟨by simp, rfl⟩, hk, fun q hq => hr q (List.mem_cons_of_mem _ hq), by simp; omega, j2⟩
          · have hf : f.length < 16777216 := by omega
            have j2 : J30 (a ++ b) (f ++ [v]) r (b.drop k) := j.near fun y hy => by
              rw [List.drop_of_length_le (by omega)] at hy
              cases hy
            simp [c]
            exact ⟨hf, r, rfl, k, f ++ [v], ⟨by simp, rfl⟩, hk, fun q hq => hr q (List.mem_cons_of_mem _ hq), by simp; omega, j2⟩
        · rintro s ⟨k, f, rfl, hm, hk, hlen, j⟩
          omega
    · rintro s ⟨r, k, f, o2, e, rfl, hk, hr, hlen, j⟩
      cases r with
      | cons v r => cases e
      | nil =>
        have ec : cutP (b.map PV.rat) (some (k : Int)) none = (b.map .rat).drop k := cut_drop (by omega)
        have ed := j.done
        simp [froz1, ec]
        refine ⟨by simp at hlen; omega, ?_⟩
        rw [← ed, List.map_append, List.map_drop]
  obtain ⟨v, mu', e, rfl, rfl⟩ := h.out
  exact e
end PX
set_option maxHeartbeats 1000000
namespace PX
open PySem L3 LD PC PD
def pr30 : List (List Rat) → List (List Rat)
  | a :: b :: t => rsort (a ++ b) :: pr30 t
  | l => l
theorem pr30_eq : ∀ Ls : List (List Rat), ((List.range (Ls.length / 2)).map fun k => rsort (Ls.getD (2 * k) [] ++ Ls.getD (2 * k + 1) [])) ++ Ls.drop (2 * (Ls.length / 2)) = pr30 Ls
  | [] => rfl
  | [a] => by simp [pr30]
  | a :: b :: t => by
    have ih := pr30_eq t
    have e : (a :: b :: t).length / 2 = t.length / 2 + 1 := by
      show (t.length + 2) / 2 = _
      omega
    rw [e, List.range_succ_eq_map, List.map_cons, List.map_map]
    show rsort (a ++ b) :: (((List.range (t.length / 2)).map _) ++ (a :: b :: t).drop (2 * (t.length / 2 + 1))) = rsort (a ++ b) :: pr30 t
    rw [← ih, show 2 * (t.length / 2 + 1) = 2 * (t.length / 2) + 1 + 1 from by omega]
    rfl
theorem pr30_perm : ∀ Ls : List (List Rat), (pr30 Ls).flatten.Perm Ls.flatten
  | [] => .refl _
  | [a] => by simp [pr30]
  | a :: b :: t => by
    show (rsort (a ++ b) ++ (pr30 t).flatten).Perm (a ++ (b ++ t.flatten))
    rw [← List.append_assoc]
    exact (rsort_perm _).append (pr30_perm t)
theorem pr30_so : ∀ {Ls : List (List Rat)}, (∀ l ∈ Ls, So l) → ∀ l ∈ pr30 Ls, So l
  | [], h => h
  | [a], h => by simpa [pr30] using h
  | a :: b :: t, h => fun l hl => by
    have hl : l ∈ rsort (a ++ b) :: pr30 t := hl
    rcases List.mem_cons.mp hl with rfl | z
    · exact rsort_sorted _
    · exact pr30_so (fun x hx => h x (List.mem_cons_of_mem _ (List.mem_cons_of_mem _ hx))) l z
theorem pr30_len : ∀ Ls : List (List Rat), (pr30 Ls).length = (Ls.length + 1) / 2
  | [] => rfl
  | [a] => by simp [pr30]
  | a :: b :: t => by
    show (pr30 t).length + 1 = (t.length + 2 + 1) / 2
    rw [pr30_len t]
    omega
theorem len_flat : ∀ {Ls : List (List Rat)} {l : List Rat}, l ∈ Ls → l.length ≤ Ls.flatten.length
  | a :: t, l, h => by
    rw [List.flatten_cons, List.length_append]
    rcases List.mem_cons.mp h with rfl | z
    · omega
    · have := len_flat z
      omega
abbrev lv (Ls : List (List Rat)) : List PV := Ls.map fun l => PV.lst (l.map .rat)
theorem e_arranged {qs : List Rat} {n : Nat} (zq : ∀ q ∈ qs, Zb q n) (hn : n ≤ 4000) (hne : qs ≠ []) (hl : qs.length ≤ 5000) (mu : List MO) :
    F_arranged [.lst (qs.map .rat)] mu = .ok (.lst ((rsort qs).map .rat)) mu := by
  have h : W (F_arranged [.lst (qs.map .rat)] mu) (fun v mu' => v = .lst ((rsort qs).map .rat) ∧ mu' = mu) := by
    unfold F_arranged d_arranged
    simp [W_runBody]
    refine W_compMap qs .rat (fun q => .lst [.rat q]) (by omega) (fun q hq => ?_) ?_
    · simp [wipeE]
    · rw [show List.map (fun q => PV.lst [PV.rat q]) qs = lv (qs.map fun q => [q]) from by unfold lv; rw [List.map_map]; rfl]
      simp [wipeE, -List.map_map]
      refine W_whileL (I := fun m s => ∃ Ls o2, s = ⟨[some (.val (.lst (qs.map .rat))), some (.val (.lst (lv Ls))), o2, none, none], mu⟩ ∧ noOwn o2 ∧ Ls ≠ [] ∧ Ls.length + 1 ≤ m ∧ Ls.length ≤ qs.length ∧ (∀ l ∈ Ls, So l) ∧ Ls.flatten.Perm qs) ⟨qs.map fun q => [q], none, rfl, trivial, by simpa using hne, by simp, by simp, fun l hl => ?_, ?_⟩ ?_ ?_
      · obtain ⟨q, _, rfl⟩ := List.mem_map.mp hl
        exact List.pairwise_singleton _ _
      · rw [← List.flatMap_def]
        simp
      · rintro m s ⟨Ls, o2, rfl, ho, hL, hm, hlen, hs, hp⟩
        unfold t_arranged_2
        have hb : -1099511627776 ≤ (Ls.length : Int) - 1 ∧ (Ls.length : Int) - 1 ≤ 1099511627776 := by omega
        by_cases c : 1 < Ls.length
        · have c' : (1 : Int) < (Ls.length : Int) := by omega
          have hnum : numC 0 ((Ls.length : Int) - 1) 2 = Ls.length / 2 := by
            unfold numC
            rw [if_pos (by omega)]
            omega
          simp [c']
          unfold b_arranged_3
          simp [hb, hnum, -List.map_map]
          unfold rangeC
          refine W_compMap (List.range (Ls.length / 2)) (fun k : Nat => .int (0 + (k : Int) * 2)) (fun k => .lst ((rsort (Ls.getD (2 * k) [] ++ Ls.getD (2 * k + 1) [])).map .rat)) (by rw [List.length_range]; omega) (fun k hk => ?_) ?_
          · have hk := List.mem_range.mp hk
            have k1 : 2 * k < Ls.length := by omega
            have k2 : 2 * k + 1 < Ls.length := by omega
            have at1 : L2.atI (lv Ls) ((k : Int) * 2) = some (.lst (Ls[2 * k].map .rat)) := by
              rw [show (k : Int) * 2 = ((2 * k : Nat) : Int) from by omega, at_of (by unfold lv; rw [List.length_map]; exact k1), List.getElem_map]
            have at2 : L2.atI (lv Ls) ((k : Int) * 2 + 1) = some (.lst (Ls[2 * k + 1].map .rat)) := by
              rw [show (k : Int) * 2 + 1 = ((2 * k + 1 : Nat) : Int) from by omega, at_of (by unfold lv; rw [List.length_map]; exact k2), List.getElem_map]
            have g1 : Ls.getD (2 * k) [] = Ls[2 * k] := by simp [List.getD, k1]
            have g2 : Ls.getD (2 * k + 1) [] = Ls[2 * k + 1] := by simp [List.getD, k2]
            rw [g1, g2]
            have m1 : Ls[2 * k] ∈ Ls := List.getElem_mem k1
            have m2 : Ls[2 * k + 1] ∈ Ls := List.getElem_mem k2
            have hz : ∀ l ∈ Ls, ∀ q ∈ l, Zb q n := fun l hl q hq => zq q (hp.mem_iff.mp (List.mem_flatten.mpr ⟨l, hl, hq⟩))
            have hle : Ls[2 * k].length + Ls[2 * k + 1].length ≤ 10000 := by
              have a1 := len_flat m1
              have a2 := len_flat m2
              have a3 := hp.length_eq
              omega
            have ej := e_joined (hs _ m1) (hs _ m2) (hz _ m1) (hz _ m2) hn hle mu
            simp [wipeE, e_arranged_1, at1, at2, ej]
          · have eP : List.map (fun k => PV.lst (List.map PV.rat (rsort (Ls.getD (2 * k) [] ++ Ls.getD (2 * k + 1) [])))) (List.range (Ls.length / 2)) = lv ((List.range (Ls.length / 2)).map fun k => rsort (Ls.getD (2 * k) [] ++ Ls.getD (2 * k + 1) [])) := by
              unfold lv
              rw [List.map_map]
              rfl
            rw [eP]
            obtain ⟨A, hA⟩ : ∃ A, A = (List.range (Ls.length / 2)).map fun k => rsort (Ls.getD (2 * k) [] ++ Ls.getD (2 * k + 1) []) := ⟨_, rfl⟩
            have lA : A.length = Ls.length / 2 := by rw [hA, List.length_map, List.length_range]
            have eq30 := pr30_eq Ls
            rw [← hA] at eq30 ⊢
            have i1 : ib 2 + ib ((Ls.length / 2 : Nat) : Int) ≤ 1000000 := by
              have := ib_le (i := ((Ls.length / 2 : Nat) : Int)) (b := 20) (by omega)
              have := (by decide : ib 2 = 2)
              omega
            have ec : cutP (lv Ls) (some (2 * ((Ls.length / 2 : Nat) : Int))) none = (lv Ls).drop (2 * (Ls.length / 2)) := by
              rw [show 2 * ((Ls.length / 2 : Nat) : Int) = ((2 * (Ls.length / 2) : Nat) : Int) from by omega]
              exact cut_drop (by omega)
            have ll : (lv A).length = Ls.length / 2 := by unfold lv; rw [List.length_map, lA]
            have ed : lv A ++ (lv Ls).drop (2 * (Ls.length / 2)) = lv (pr30 Ls) := by
              rw [← eq30]
              unfold lv
              rw [List.map_append, List.map_drop]
            have hsz : (lv A).length + ((lv Ls).drop (2 * (Ls.length / 2))).length ≤ 16777216 := by
              rw [ll, List.length_drop]
              unfold lv
              rw [List.length_map]
              omega
            have l30 := pr30_len Ls
            generalize lv A = vA at *
            generalize lv Ls = vL at *
            simp [wipeE, ll, i1, ec, hsz, ed]
            rw [show (Ls.length : Int) / 2 = ((Ls.length / 2 : Nat) : Int) from by omega, ec]
            exact ⟨i1, by omega, pr30 Ls, _, ⟨ed, rfl⟩, trivial, fun z => by rw [z] at l30; simp at l30; omega, by omega, by omega, pr30_so hs, (pr30_perm Ls).trans hp⟩
        · have c' : ¬ (1 : Int) < (Ls.length : Int) := by omega
          have h1 : Ls.length = 1 := by
            have := List.length_pos_iff.mpr hL
            omega
          obtain ⟨l, rfl⟩ := List.length_eq_one_iff.mp h1
          have : l = rsort qs := rsort_uniq (by simpa using hp) (hs l (by simp))
          subst this
          simp
      · rintro s ⟨Ls, o2, rfl, ho, hL, hm, hlen, hs, hp⟩
        omega
  obtain ⟨v, mu', e, rfl, rfl⟩ := h.out
  exact e
end PX
set_option maxHeartbeats 1000000
namespace PX
open PySem L3 LD PC PD
theorem e_mean_ofB {a : Nat} {qs : List Rat} (hz : ∀ q ∈ qs, Zb q a) (hl : qs.length * (a + 1) + a + 20 ≤ 8000) (hn : qs.length ≤ 1000) (hne : qs ≠ []) (mu : List MO) : F_mean_of [.lst (qs.map .rat)] mu = .ok (.rat (mn qs)) mu := by
  have h0 : 0 < qs.length := List.length_pos_iff.mpr hne
  have hla : qs.length * (a + 1) = qs.length * a + qs.length := by rw [Nat.mul_add, Nat.mul_one]
  have e2 := e_total qs hz (by omega) (by omega) (by omega) mu
  have e3 := e_over (x := sumQ qs) (y := ((qs.length : Int) : Rat)) (p := .int (qs.length : Int)) (a := 0 + qs.length * (a + 1)) (b := 14) (Zb_sum qs 0 0 Zb0 hz) (Zb_int (by omega)) (.inr ⟨rfl, rfl⟩) (by show (qs.length : Int) ≠ 0; omega) (by omega) mu
  simp [F_mean_of, runBody, d_mean_of, e2, e3, mn]
theorem e_median_ofB {qs : List Rat} (hz : ∀ q ∈ qs, Zb q 2000) (hne : qs ≠ []) (hn : qs.length ≤ 4000) (mu : List MO) : F_median_of [.lst ((rsort qs).map .rat)] mu = .ok (.rat (mn (medl qs))) mu := by
  have h0 : 0 < qs.length := List.length_pos_iff.mpr hne
  have a1 := at_rs (f := .rat) (qs := qs) (i := ((qs.length : Int) - 1) / 2) (j := (qs.length - 1) / 2) (by omega) (by omega) (by omega)
  have a2 := at_rs (f := .rat) (qs := qs) (i := (qs.length : Int) / 2) (j := qs.length / 2) (by omega) (by omega) (by omega)
  have i2 : ib 2 ≤ 9000 := by decide
  have e2 := e_mean_ofB (qs := medl qs) (a := 2000) (fun q hq => hz q (medl_mem hne hq)) (by simp [medl]) (by simp [medl]) (by simp [medl]) mu
  have e2 : F_mean_of [.lst [.rat ((rsort qs).getD ((qs.length - 1) / 2) 0), .rat ((rsort qs).getD (qs.length / 2) 0)]] mu = .ok (.rat (mn (medl qs))) mu := e2
  have h : W (F_median_of [.lst ((rsort qs).map .rat)] mu) (fun v mu' => v = .rat (mn (medl qs)) ∧ mu' = mu) := by
    unfold F_median_of d_median_of
    simp [-List.getD_eq_getElem?_getD, W_runBody, i2, rsort_len, a1, a2, e2]
  obtain ⟨v, mu', e, rfl, rfl⟩ := h.out
  exact e
/-- a comprehension that chooses and maps, the state the same behind each element -/
theorem comp_fm {α : Type} {tg : DG} {tt : DT} {te : DE} {vs : List Nat} {s : S} (g : α → PV) (p : α → Bool) (f : α → PV) : ∀ (l : List α) (acc : List PV),
    (∀ a ∈ l, ∃ s1, tg (g a) s = .ok () s1 ∧ tt s1 = .ok (p a) s1 ∧ (p a = true → ∃ s3, te s1 = .ok (f a) s3 ∧ wipeS vs s3 = s) ∧ (p a = false → wipeS vs s1 = s)) → acc.length + l.length ≤ 16777216 →
    compL tg tt te vs (l.map g) acc s = .ok (acc ++ (l.filter p).map f) s
  | [], acc, _, _ => by simp [compL]
  | a :: l, acc, h, hl => by
    obtain ⟨s1, h1, h2, h3, h4⟩ := h a List.mem_cons_self
    simp only [List.length_cons] at hl
    rw [List.map_cons]
    unfold compL
    cases c : p a with
    | true =>
      obtain ⟨s3, h5, h6⟩ := h3 c
      rw [c] at h2
      have ih := comp_fm (tg := tg) (tt := tt) (te := te) (vs := vs) (s := s) g p f l (acc ++ [f a]) (fun b hb => h b (List.mem_cons_of_mem _ hb)) (by simp; omega)
      simp only [h1, tgt, h2, okB, h5]
      rw [if_pos (by omega), h6, ih, List.filter_cons_of_pos c]
      simp
    | false =>
      rw [c] at h2
      have ih := comp_fm (tg := tg) (tt := tt) (te := te) (vs := vs) (s := s) g p f l acc (fun b hb => h b (List.mem_cons_of_mem _ hb)) (by omega)
      simp only [h1, tgt, h2, okB]
      rw [h4 c, ih, List.filter_cons_of_neg (by simp [c])]
def sl30 (p q : P2) : Rat := (q.2 - p.2) / (q.1 - p.1)
def slp : List P2 → List Rat
  | [] => []
  | p :: r => ((r.filter fun q => !decide (q.1 = p.1)).map (sl30 p)) ++ slp r
theorem slp_len : ∀ ps : List P2, (slp ps).length ≤ ps.length * ps.length
  | [] => by simp [slp]
  | p :: r => by
    have ih := slp_len r
    have h := List.length_filter_le (fun q : P2 => !decide (q.1 = p.1)) r
    show (((r.filter fun q => !decide (q.1 = p.1)).map (sl30 p)) ++ slp r).length ≤ (r.length + 1) * (r.length + 1)
    rw [List.length_append, List.length_map, Nat.mul_add, Nat.add_mul]
    omega
theorem slp_zb {ps : List P2} {a : Nat} (hz : ∀ p ∈ ps, Zb p.1 a ∧ Zb p.2 a) : ∀ q ∈ slp ps, Zb q (a + a + 1 + (a + a + 1)) := by
  induction ps with
  | nil => intro q hq; cases hq
  | cons p r ih =>
    intro q hq
    have hq : q ∈ ((r.filter fun q => !decide (q.1 = p.1)).map (sl30 p)) ++ slp r := hq
    rcases List.mem_append.mp hq with z | z
    · obtain ⟨x, hx, rfl⟩ := List.mem_map.mp z
      obtain ⟨hx1, hx2⟩ := List.mem_filter.mp hx
      have h1 := hz p List.mem_cons_self
      have h2 := hz x (List.mem_cons_of_mem _ hx1)
      have hne : ¬ x.1 - p.1 = 0 := fun w => by
        have : x.1 = p.1 := by grind
        simp [this] at hx2
      have hn : (x.1 - p.1).num ≠ 0 := fun w => hne (Rat.num_eq_zero.mp w)
      exact Zb.div (Zb.sub h2.2 h1.2) (Zb.sub h2.1 h1.1) hn
    · exact ih (fun x hx => hz x (List.mem_cons_of_mem _ hx)) q z
end PX
set_option maxHeartbeats 1000000
namespace PX
open PySem L3 LD PC PD
section
variable {ps : List P2} {mu : List MO}
theorem slopes_of {a0 a2 a3 a4 : Option SV} {k : Nat} {p : P2} (hk : ps.drop k = p :: ps.drop (k + 1)) (hz : ∀ p ∈ ps, Zb p.1 200 ∧ Zb p.2 200) (hl : ps.length ≤ 40) :
    compL (gT 2 (gCons (gN 7) (gCons (gN 8) gNil))) (dTru (dBin (gNeR F_Ratio___eq__ (gEq true)) (dVar 7) (dVar 5))) e_middle_line_1 [7, 8] ((ps.drop (k + 1)).map tq) [] ⟨[a0, some (.val (.lst (ps.map tq))), a2, a3, a4, some (.val (.rat p.1)), some (.val (.rat p.2)), none, none], mu⟩
      = .ok ((((ps.drop (k + 1)).filter fun q => !decide (q.1 = p.1)).map (sl30 p)).map .rat) ⟨[a0, some (.val (.lst (ps.map tq))), a2, a3, a4, some (.val (.rat p.1)), some (.val (.rat p.2)), none, none], mu⟩ := by
  have hp : p ∈ ps := List.mem_of_mem_drop (by rw [hk]; exact List.mem_cons_self)
  have h := comp_fm (tg := gT 2 (gCons (gN 7) (gCons (gN 8) gNil))) (tt := dTru (dBin (gNeR F_Ratio___eq__ (gEq true)) (dVar 7) (dVar 5))) (te := e_middle_line_1) (vs := [7, 8])
    (s := ⟨[a0, some (.val (.lst (ps.map tq))), a2, a3, a4, some (.val (.rat p.1)), some (.val (.rat p.2)), none, none], mu⟩) tq (fun q => !decide (q.1 = p.1)) (fun q => .rat (sl30 p q)) (ps.drop (k + 1)) [] (fun q hq => by
      have hq := List.mem_of_mem_drop hq
      have e1 := e_eq (x := q.1) (p := .rat p.1) (.inl rfl) mu
      refine ⟨⟨[a0, some (.val (.lst (ps.map tq))), a2, a3, a4, some (.val (.rat p.1)), some (.val (.rat p.2)), some (.val (.rat q.1)), some (.val (.rat q.2))], mu⟩, rfl, ?_, fun c => ?_, fun c => ?_⟩
      · simp [gNeR, e1]
      · have hne : ¬ q.1 - p.1 = 0 := fun w => by
          have : q.1 = p.1 := by grind
          simp [this] at c
        have hn : (q.1 - p.1).num ≠ 0 := fun w => hne (Rat.num_eq_zero.mp w)
        have z1 := hz q hq
        have z2 := hz p hp
        have s1 := e_sub (p := .rat p.2) z1.2 z2.2 (.inl rfl) (by decide) mu
        have s2 := e_sub (p := .rat p.1) z1.1 z2.1 (.inl rfl) (by decide) mu
        have s3 := e_over (p := .rat (q.1 - p.1)) (Zb.sub z1.2 z2.2) (Zb.sub z1.1 z2.1) (.inl rfl) hn (by decide) mu
        refine ⟨⟨[a0, some (.val (.lst (ps.map tq))), a2, a3, a4, some (.val (.rat p.1)), some (.val (.rat p.2)), some (.val (.rat q.1)), some (.val (.rat q.2))], mu⟩, ?_, rfl⟩
        simp [e_middle_line_1, gRL, s1, s2, s3, sl30]
      · rfl) (by simp; omega)
  rw [List.nil_append] at h
  rw [h, List.map_map]
  rfl
theorem slp_drop {k : Nat} (h : k < ps.length) : slp (ps.drop k) = (((ps.drop (k + 1)).filter fun q => !decide (q.1 = ps[k].1)).map (sl30 ps[k])) ++ slp (ps.drop (k + 1)) := by
  rw [List.drop_eq_getElem_cons h]
  rfl
/-- the slope and the height of the middle line -/
def mb (ps : List P2) : Rat := mn (medl (slp ps))
def mh (ps : List P2) : Rat := mn (medl (ps.map fun p => p.2 - mb ps * p.1))
theorem w_slopes {Q : S → Prop} {a0 a3 : Option SV} (hz : ∀ p ∈ ps, Zb p.1 200 ∧ Zb p.2 200) (hl : ps.length ≤ 40)
    (hQ : ∀ a4 a5 a6 : Option SV, noOwn a4 → noOwn a5 → noOwn a6 → Q ⟨[a0, some (.val (.lst (ps.map tq))), some (.own ((slp ps).map .rat)), a3, a4, a5, a6, none, none], mu⟩) :
    W (forL (gT 2 (gCons (gN 4) (gCons (gT 2 (gCons (gN 5) (gCons (gN 6) gNil))) gNil))) b_middle_line_2 (enumP (ps.map tq)) ⟨[a0, some (.val (.lst (ps.map tq))), some (.own []), a3, none, none, none, none, none], mu⟩) (fun f s => f = .nx ∧ Q s) := by
  have hen : (enumP (ps.map tq)).length = ps.length := by simp [enumP]
  refine W_forL (I := fun xs s => ∃ k f a4 a5 a6, xs = (enumP (ps.map tq)).drop k ∧ k ≤ ps.length ∧ noOwn a4 ∧ noOwn a5 ∧ noOwn a6 ∧ f ++ slp (ps.drop k) = slp ps ∧ s = ⟨[a0, some (.val (.lst (ps.map tq))), some (.own (f.map .rat)), a3, a4, a5, a6, none, none], mu⟩) ⟨0, [], none, none, none, rfl, Nat.zero_le _, trivial, trivial, trivial, rfl, rfl⟩ ?_ ?_
  · rintro x ys s ⟨k, f, a4, a5, a6, e, hk, n4, n5, n6, hf, rfl⟩
    have hlt : k < (enumP (ps.map tq)).length := by
      rcases Nat.lt_or_ge k (enumP (ps.map tq)).length with z | z
      · exact z
      · rw [List.drop_of_length_le z] at e; cases e
    rw [List.drop_eq_getElem_cons hlt] at e
    cases e
    have hlt2 : k < ps.length := by omega
    have ex : (enumP (ps.map tq))[k] = .tup [.int (k : Int), tq ps[k]] := by
      simp [enumP, List.getD, hlt2]
    rw [ex]
    have ec : cutP (ps.map tq) (some ((k : Int) + 1)) none = (ps.map tq).drop (k + 1) := by
      rw [show (k : Int) + 1 = ((k + 1 : Nat) : Int) from by omega]
      exact cut_drop (by omega)
    have sl := slopes_of (mu := mu) (a0 := a0) (a2 := some (.own (f.map .rat))) (a3 := a3) (a4 := some (.val (.int (k : Int)))) (List.drop_eq_getElem_cons hlt2) hz hl
    rw [List.map_drop] at sl
    have hs := slp_drop hlt2
    have hlen := slp_len ps
    have hsq : ps.length * ps.length ≤ 40 * 40 := Nat.mul_le_mul hl hl
    have htot : f.length + (((ps.drop (k + 1)).filter fun q => !decide (q.1 = ps[k].1)).map (sl30 ps[k])).length ≤ 16777216 := by
      have := congrArg List.length hf
      rw [hs, List.length_append, List.length_append] at this
      omega
    unfold b_middle_line_2
    simp [tq, ec, wipeE]
    rw [sl]
    rw [List.length_map] at htot
    simp [-List.map_map, -List.drop_eq_drop_iff, htot]
    refine ⟨k + 1, rfl, by omega, f ++ (((ps.drop (k + 1)).filter fun q => !decide (q.1 = ps[k].1)).map (sl30 ps[k])), some (.val (.int (k : Int))), trivial, some (.val (.rat ps[k].1)), trivial, some (.val (.rat ps[k].2)), trivial, by rw [List.append_assoc, ← hs]; exact hf, ?_⟩
    simp
  · rintro s ⟨k, f, a4, a5, a6, e, hk, n4, n5, n6, hf, rfl⟩
    have hk2 : ps.length ≤ k := by
      have := List.drop_eq_nil_iff.mp e.symm
      omega
    rw [List.drop_of_length_le hk2] at hf
    have hf : f = slp ps := by simpa [slp] using hf
    subst hf
    exact ⟨rfl, hQ a4 a5 a6 n4 n5 n6⟩
theorem v_medB {l : List Rat} {a : Nat} (hz : ∀ q ∈ l, Zb q a) (hne : l ≠ []) : Zb (mn (medl l)) (2 * (a + 1) + 14) := by
  have h := Zb_sum (medl l) 0 0 Zb0 fun q hq => hz q (medl_mem hne hq)
  have h2 := Zb.div (y := ((2 : Int) : Rat)) h (Zb_int (b := 14) (by decide)) (by decide)
  exact h2.le (by rw [show (medl l).length = 2 from rfl]; omega)
theorem ow30 {p0 p1 : PV} {xs : List PV} {a3 a4 a5 a6 : Option SV} (h3 : noOwn a3) (h4 : noOwn a4) (h5 : noOwn a5) (h6 : noOwn a6) : ownIn [2] [some (.val p0), some (.val p1), some (.own xs), a3, a4, a5, a6, none, none] = true := by
  have go : ∀ {o : Option SV}, noOwn o → (match some o with | some (some (.own _)) => [2].contains 3 | _ => true) = true := fun {o} h => by
    cases o with
    | none => rfl
    | some z =>
      cases z with
      | val p => rfl
      | own ys => exact h.elim
  rcases a3 with _ | (_ | _) <;> rcases a4 with _ | (_ | _) <;> rcases a5 with _ | (_ | _) <;> rcases a6 with _ | (_ | _) <;> first
    | rfl
    | exact h3.elim
    | exact h4.elim
    | exact h5.elim
    | exact h6.elim
theorem e_middle {D B : Nat} {ts : List PV} {sm : PV} (h : PP ps ts) (hs : sm = .lst ts ∨ sm = .tup ts) (hl : ps.length ≤ 40) (hne : ps ≠ []) (h0 : 0 < D) (hD : D ≤ 2 ^ 30) (hB : 1 ≤ B) (hB2 : B ≤ 2 ^ 30) (zd : ∀ p ∈ ps, Zd D B p.1 ∧ Zd D B p.2) (mu : List MO) (hf : flatMs mu = true) :
    F_middle_line [sm] mu = if slp ps = [] then .exn (.exc "NoSpread" [] []) mu else .ok (.ptr mu.length) (mu ++ [lnO (mb ps) (mh ps)]) := by
  have hz6 : ∀ p ∈ ps, Zb p.1 60 ∧ Zb p.2 60 := fun p hp => by
    have b1 : B * D ≤ 2 ^ 60 := Nat.le_trans (Nat.mul_le_mul hB2 hD) (by decide)
    have b2 : D ≤ 2 ^ 60 := Nat.le_trans hD (by decide)
    exact ⟨(zd p hp).1.zb h0 b1 b2, (zd p hp).2.zb h0 b1 b2⟩
  have hz : ∀ p ∈ ps, Zb p.1 200 ∧ Zb p.2 200 := fun p hp => ⟨(hz6 p hp).1.le (by decide), (hz6 p hp).2.le (by decide)⟩
  have e1 := e_need_pairs h hs (by omega) mu
  have hmap : ps.map tq ≠ [] := fun z => hne (List.map_eq_nil_iff.mp z)
  have e2 := e_items hmap mu
  have hw := w_slopes (mu := mu) (a0 := some (.val sm)) (a3 := none) (Q := fun s => ∃ a4 a5 a6, noOwn a4 ∧ noOwn a5 ∧ noOwn a6 ∧ s = ⟨[some (.val sm), some (.val (.lst (ps.map tq))), some (.own ((slp ps).map .rat)), none, a4, a5, a6, none, none], mu⟩) hz hl (fun a4 a5 a6 n4 n5 n6 => ⟨a4, a5, a6, n4, n5, n6, rfl⟩)
  obtain ⟨f, s, e3, rfl, a4, a5, a6, n4, n5, n6, rfl⟩ := hw.out
  have ow := ow30 (p0 := sm) (p1 := .lst (ps.map tq)) (xs := (slp ps).map .rat) (a3 := none) trivial n4 n5 n6
  have l40 : ¬ (40 : Int) < (ps.length : Int) := by omega
  by_cases c : slp ps = []
  · rw [if_pos c]
    rw [c, List.map_nil] at e3 ow
    simp [F_middle_line, runBody, d_middle_line, e1, e2, e3, ow, froz1, l40, hf, gEq_nil, -gEq]
  · rw [if_neg c]
    have zs : ∀ q ∈ slp ps, Zb q 300 := fun q hq => (slp_zb hz6 q hq).le (by decide)
    have hlen := slp_len ps
    have hsq : ps.length * ps.length ≤ 40 * 40 := Nat.mul_le_mul hl hl
    have ea := e_arranged zs (by decide) c (by omega) mu
    have em := e_median_ofB (fun q hq => (zs q hq).le (by decide)) c (by omega) mu
    have zb : Zb (mb ps) 700 := by
      have := v_medB zs c
      exact this.le (by decide)
    have hemp : ((slp ps).map PV.rat).isEmpty = false := by
      cases e : slp ps with
      | nil => exact absurd e c
      | cons a t => rfl
    have zmb : Zd (mb ps).den (mb ps).num.natAbs (mb ps) := ⟨Nat.dvd_refl _, Nat.le_mul_of_pos_right _ (mb ps).den_pos⟩
    have hpos := (mb ps).den_pos
    have zh : ∀ q ∈ ps.map (fun p => p.2 - mb ps * p.1), Zd ((mb ps).den * D) (B + (mb ps).num.natAbs * B) q := fun q hq => by
      obtain ⟨p, hp, rfl⟩ := List.mem_map.mp hq
      exact ((zd p hp).2.mono (Nat.dvd_mul_left _ _) (Nat.le_refl _)).sub (Nat.mul_pos hpos h0) (zmb.mul (zd p hp).1)
    have bD : (mb ps).den * D ≤ 2 ^ 730 := Nat.le_trans (Nat.mul_le_mul zb.2 hD) (by decide +kernel)
    have bB : B + (mb ps).num.natAbs * B ≤ 2 ^ 731 := by
      have h1 : (mb ps).num.natAbs * B ≤ 2 ^ 700 * 2 ^ 30 := Nat.mul_le_mul zb.1 hB2
      have h2 : (2 : Nat) ^ 30 + 2 ^ 700 * 2 ^ 30 ≤ 2 ^ 731 := by decide +kernel
      exact Nat.le_trans (Nat.add_le_add hB2 h1) h2
    have sh : Sm ((mb ps).den * D) (2 * (B + (mb ps).num.natAbs * B)) := ⟨Nat.mul_pos hpos h0, Nat.le_trans (Nat.mul_le_mul (Nat.mul_le_mul_left 2 bB) bD) (by decide +kernel), Nat.le_trans bD (by decide +kernel)⟩
    have hne2 : ps.map (fun p => p.2 - mb ps * p.1) ≠ [] := fun z => hne (List.map_eq_nil_iff.mp z)
    have e6 := z_ordered (sh.le sh.pos (Nat.le_refl _) (Nat.le_mul_of_pos_left _ (by decide))) zh (by rw [List.length_map]; omega) mu
    have e7 := e_median_of sh (by omega) zh hne2 (by rw [List.length_map]; omega) mu
    have e5 := comp_fm (tg := gT 2 (gCons (gN 5) (gCons (gN 6) gNil))) (tt := dYes) (te := e_middle_line_3) (vs := [5, 6])
      (s := ⟨[some (.val sm), some (.val (.lst (ps.map tq))), some (.own ((slp ps).map .rat)), some (.val (.rat (mb ps))), a4, none, none, none, none], mu⟩) tq (fun _ => true) (fun p => .rat (p.2 - mb ps * p.1)) ps [] (fun q hq => by
        have m1 := e_mul (p := .rat q.1) zb (hz q hq).1 (.inl rfl) (by decide) mu
        have m2 := e_sub (p := .rat (mb ps * q.1)) (hz q hq).2 (zb.mul (hz q hq).1) (.inl rfl) (by decide) mu
        refine ⟨⟨[some (.val sm), some (.val (.lst (ps.map tq))), some (.own ((slp ps).map .rat)), some (.val (.rat (mb ps))), a4, some (.val (.rat q.1)), some (.val (.rat q.2)), none, none], mu⟩, rfl, rfl, fun _ => ⟨⟨[some (.val sm), some (.val (.lst (ps.map tq))), some (.own ((slp ps).map .rat)), some (.val (.rat (mb ps))), a4, some (.val (.rat q.1)), some (.val (.rat q.2)), none, none], mu⟩, ?_, rfl⟩, fun z => by cases z⟩
        simp [e_middle_line_3, gRL, m1, m2]) (by simp; omega)
    rw [List.nil_append, List.filter_eq_self.mpr (fun _ _ => rfl)] at e5
    have eR : ps.map (fun p => PV.rat (p.2 - mb ps * p.1)) = (ps.map fun p => p.2 - mb ps * p.1).map .rat := by rw [List.map_map]; rfl
    rw [eR] at e5
    have eI := e_line_init (p := .rat (mb ps)) (q := .rat (mh ps)) (.inl rfl) (.inl rfl) mu
    have eP : ∀ a b c : PV, pick3 [(0, 0), (0, 1), (0, 2)] [a, b, c] [] [] = [a, b, c] := fun _ _ _ => rfl
    have fP : flatP (.rat (mn (medl (slp ps)))) = true := rfl
    have hw : W (F_middle_line [sm] mu) (fun v mu' => v = .ptr mu.length ∧ mu' = mu ++ [lnO (mb ps) (mh ps)]) := by
      unfold F_middle_line d_middle_line
      simp [W_runBody, e1, e2, l40]
      refine W.of e3 ?_
      rw [show mn (medl (ps.map fun p => p.2 - mb ps * p.1)) = mh ps from rfl] at e7
      generalize (ps.map fun p => p.2 - mb ps * p.1) = hs at *
      rw [show mn (medl (slp ps)) = mb ps from rfl] at em fP
      simp [ow, froz1, hf, gEq_nil, ea, em, hemp, fP, wipeE, e5, e6, e7, eI, eP, -gEq]
    obtain ⟨v, mu', e, rfl, rfl⟩ := hw.out
    exact e
end
end PX
set_option maxHeartbeats 1000000
set_option maxHeartbeats 1000000
set_option maxHeartbeats 1000000
namespace PX
open PySem L3 LD PC PD
variable {Fq : List MO → Prop}
/-- what stands near -/
def N04 (x : Rat) : Prop := Zb x 150 ∧ x.den ≤ 2 ^ 10
theorem N04.mk {t b : Int} (hb : b ≠ 0) (h1 : t.natAbs ≤ 2 ^ 140) (h2 : b.natAbs ≤ 60) : N04 (Rat.divInt t b) := by
  have hd : (Rat.divInt t b).den ≤ b.natAbs := by
    have := den_div t b hb
    have h3 : ((Rat.divInt t b).den : Int) ≤ (b.natAbs : Int) := by
      rw [← this]
      exact Int.ediv_le_self _ (by omega)
    omega
  have hn : (Rat.divInt t b).num.natAbs ≤ t.natAbs := by
    have := num_div t b hb
    have h4 := Int.natAbs_ediv_le_natAbs t (Int.gcd t b : Int)
    rw [← this]
    split
    · exact h4
    · omega
  refine ⟨⟨Nat.le_trans hn (Nat.le_trans h1 (by decide)), Nat.le_trans hd (Nat.le_trans h2 (by decide))⟩, Nat.le_trans hd (Nat.le_trans h2 (by decide))⟩
end PX
set_option maxHeartbeats 1000000
set_option maxHeartbeats 1000000
set_option maxHeartbeats 1000000
set_option maxHeartbeats 1000000
namespace PX
open PySem L3 LD PC PD
theorem hz6 : ∀ q ∈ ([1, 2, 6] : List Rat), Zd 60 90 q := fun q hq => by
  simp only [List.mem_cons, List.not_mem_nil, or_false] at hq
  rcases hq with rfl | rfl | rfl <;> exact ⟨by decide, by decide +kernel⟩
end PX
set_option maxHeartbeats 1000000
set_option maxHeartbeats 1000000
set_option maxHeartbeats 1000000
set_option maxHeartbeats 1000000
namespace PX
open PySem L3 LD PC PD
theorem eq_frs17 (neg : Bool) (x y : Rat) (s : S) : gEq neg (fr x) (fr y) s = .ok (.bl (xor neg (decide (x = y)))) s := by
  unfold gEq
  rw [if_pos ⟨okD_fr _, okD_fr _⟩, eqP_fr]
end PX
set_option maxHeartbeats 1000000
set_option maxHeartbeats 1000000
set_option maxHeartbeats 1000000
namespace PX
open PySem L3 LD PC PD
section
variable {T : List Rat} {s b u : Rat} {n i : Nat}
def neg (T : List Rat) : List Rat := T.map fun q => -q
end
end PX
set_option maxHeartbeats 1000000
namespace PX
open PySem L3 LD PC PD
section
variable {f s m : Rat} {qs : List Rat} {k j : Nat}
theorem mn_two (a b : Rat) : mn [a, b] = (a + b) / 2 := by
  show sumQ [a, b] / (((2 : Nat) : Int) : Rat) = _
  have e : sumQ [a, b] = a + b := by
    show 0 + a + b = a + b
    grind
  rw [e]
  rfl
theorem medl_two (qs : List Rat) : medl qs = [lo qs, hi qs] := rfl
end
end PX
set_option maxHeartbeats 1000000
namespace PX
open PySem L3 LD PC PD
theorem e_half {qs : List Rat} (hz : ∀ q ∈ qs, Zb q 900) (hne : qs ≠ []) (hn : qs.length ≤ 4000) (mu : List MO) : F_w_half [.lst (qs.map fr)] mu = .ok (fr (mn (medl qs))) mu := by
  have h0 : 0 < qs.length := List.length_pos_iff.mpr hne
  have e1 := e_sortedB (by decide) hz (by omega) mu
  have a1 := at_rs (f := fr) (qs := qs) (i := ((qs.length : Int) - 1) / 2) (j := (qs.length - 1) / 2) (by omega) (by omega) (by omega)
  have a2 := at_rs (f := fr) (qs := qs) (i := (qs.length : Int) / 2) (j := qs.length / 2) (by omega) (by omega) (by omega)
  have z1 : Zb (PX.lo qs) 900 := hz _ (lo_mem hne)
  have z2 : Zb (PX.hi qs) 900 := hz _ (hi_mem hne)
  have e2 := e_wmiddle z1 z2 (by decide) mu
  have i2 : ib 2 ≤ 9000 := by decide
  have em : Rat.divInt 1 2 * (PX.lo qs + PX.hi qs) = mn (medl qs) := by
    rw [medl_two, mn_two, show Rat.divInt 1 2 = 1 / 2 from by decide +kernel]
    grind
  rw [em] at e2
  have e2 : F_w_middle [fr ((rsort qs).getD ((qs.length - 1) / 2) 0), fr ((rsort qs).getD (qs.length / 2) 0)] mu = .ok (fr (mn (medl qs))) mu := e2
  have h : W (F_w_half [.lst (qs.map fr)] mu) (fun v mu' => v = fr (mn (medl qs)) ∧ mu' = mu) := by
    unfold F_w_half d_w_half
    simp [-List.getD_eq_getElem?_getD, W_runBody, i2, rsort_len, e1, a1, a2, e2]
  obtain ⟨v, mu', e, rfl, rfl⟩ := h.out
  exact e
/-- the law's slopes at one place -/
def du (ps : List P2) (p : P2) : List Rat := (ps.filter fun q => !decide (q.1 = p.1)).map fun q => sl30 q p
def dus (ps : List P2) (k : Nat) : List Rat := (List.range k).flatMap fun i => du (ps.take i) (ps.getD i (0, 0))
theorem perm_fm {α : Type} (f g : α → List Rat) : ∀ l : List α, (l.flatMap fun a => f a ++ g a).Perm (l.flatMap f ++ l.flatMap g)
  | [] => .refl _
  | a :: l => by
    show (f a ++ g a ++ l.flatMap fun a => f a ++ g a).Perm ((f a ++ l.flatMap f) ++ (g a ++ l.flatMap g))
    have ih := perm_fm f g l
    rw [List.append_assoc, List.append_assoc]
    refine List.Perm.append_left _ ?_
    refine (List.Perm.append_left (g a) ih).trans ?_
    rw [← List.append_assoc, ← List.append_assoc]
    exact List.Perm.append_right _ List.perm_append_comm
theorem fm_one (p : P2) : ∀ r : List P2, ((List.range r.length).flatMap fun i => du [p] (r.getD i (0, 0))) = (r.filter fun q => !decide (q.1 = p.1)).map (sl30 p)
  | [] => rfl
  | q :: r => by
    have ih := fm_one p r
    rw [List.length_cons, List.range_succ_eq_map, List.flatMap_cons, List.flatMap_map]
    show du [p] q ++ ((List.range r.length).flatMap fun i => du [p] (r.getD i (0, 0))) = _
    rw [ih]
    by_cases c : q.1 = p.1
    · simp [du, c]
    · have c2 : ¬ p.1 = q.1 := fun z => c z.symm
      simp [du, c, c2]
theorem dus_perm : ∀ ps : List P2, (dus ps ps.length).Perm (slp ps)
  | [] => .refl _
  | p :: r => by
    have ih := dus_perm r
    unfold dus
    rw [List.length_cons, List.range_succ_eq_map, List.flatMap_cons, List.flatMap_map]
    show ([] ++ ((List.range r.length).flatMap fun i => du (p :: r.take i) (r.getD i (0, 0)))).Perm (((r.filter fun q : P2 => !decide (q.1 = p.1)).map (sl30 p)) ++ slp r)
    rw [List.nil_append]
    have e : (fun i => du (p :: r.take i) (r.getD i (0, 0))) = fun i => du [p] (r.getD i (0, 0)) ++ du (r.take i) (r.getD i (0, 0)) := by
      funext i
      unfold du
      rw [show p :: r.take i = [p] ++ r.take i from rfl, List.filter_append, List.map_append]
    rw [e]
    refine (perm_fm _ _ _).trans ?_
    rw [fm_one]
    exact List.Perm.append_left _ ih
end PX
set_option maxHeartbeats 1000000
namespace PX
open PySem L3 LD PC PD
section
variable {ps : List P2} {mu : List MO}
theorem w_du {k : Nat} (hk : k < ps.length) (hl : ps.length ≤ 40) (hz : ∀ p ∈ ps, Zb p.1 60 ∧ Zb p.2 60) {f : List Rat} (hfl : f.length ≤ 5000) {o4 o5 o6 : Option SV} (n4 : noOwn o4) (n5 : noOwn o5) (n6 : noOwn o6) :
    W (forL (gT 2 (gCons (gN 4) (gCons (gN 5) gNil))) b_w_due_k30_1 ((ps.take k).map dq) ⟨[some (.val (.lst (ps.map dq))), some (.own (f.map fr)), some (.val (.int (k : Int))), none, o4, o5, o6], mu⟩) fun g s => g = .nx ∧ ∃ o4 o5 o6, noOwn o4 ∧ noOwn o5 ∧ noOwn o6 ∧ s = ⟨[some (.val (.lst (ps.map dq))), some (.own ((f ++ du (ps.take k) ps[k]).map fr)), some (.val (.int (k : Int))), none, o4, o5, o6], mu⟩ := by
  have at_ : L2.atI (ps.map dq) (k : Int) = some (dq ps[k]) := by
    rw [at_of (by rw [List.length_map]; exact hk), List.getElem_map]
  refine W_forL (I := fun xs s => ∃ l1 l2 o4 o5 o6, ps.take k = l1 ++ l2 ∧ xs = l2.map dq ∧ noOwn o4 ∧ noOwn o5 ∧ noOwn o6 ∧ s = ⟨[some (.val (.lst (ps.map dq))), some (.own ((f ++ du l1 ps[k]).map fr)), some (.val (.int (k : Int))), none, o4, o5, o6], mu⟩) ⟨[], ps.take k, o4, o5, o6, rfl, rfl, n4, n5, n6, by simp [du]⟩ ?_ ?_
  · rintro x ys s ⟨l1, l2, o4, o5, o6, el, e, n4, n5, n6, rfl⟩
    cases l2 with
    | nil => cases e
    | cons q l2 =>
      cases e
      have hq : q ∈ ps := List.mem_of_mem_take (by rw [el]; simp)
      have hp : ps[k] ∈ ps := List.getElem_mem hk
      have hlen : (du l1 ps[k]).length ≤ 40 := by
        unfold du
        rw [List.length_map]
        have h1 := List.length_filter_le (fun q : P2 => !decide (q.1 = ps[k].1)) l1
        have h2 := congrArg List.length el
        rw [List.length_take, List.length_append] at h2
        omega
      have hsz : f.length + (du l1 ps[k]).length < 16777216 := by omega
      have ed : du (l1 ++ [q]) ps[k] = du l1 ps[k] ++ du [q] ps[k] := by
        unfold du
        rw [List.filter_append, List.map_append]
      have qe := fun s => eq_frs17 true q.1 ps[k].1 s
      have i0 : ∀ (a b : PV) s, fIx (.tup [a, b]) (.int 0) s = .ok a s := fun a b s => rfl
      have i1 : ∀ (a b : PV) s, fIx (.tup [a, b]) (.int 1) s = .ok b s := fun a b s => rfl
      have ix : ∀ s, fIx (.lst (ps.map dq)) (.int (k : Int)) s = .ok (dq ps[k]) s := fun s => by
        simp [fIx, at_]
      unfold b_w_due_k30_1
      by_cases c : q.1 = ps[k].1
      · have e0 : du [q] ps[k] = [] := by simp [du, c]
        rw [c, decide_eq_true rfl] at qe
        simp [dq, ix, i0, c, qe, -fIx, -gEq]
        exact ⟨l1 ++ [q], l2, by rw [el]; simp, rfl, some (.val (fr ps[k].1)), trivial, some (.val (fr q.2)), trivial, o6, n6, by rw [ed, e0, List.append_nil], rfl, rfl, rfl⟩
      · have e0 : du [q] ps[k] = [sl30 q ps[k]] := by simp [du, c]
        rw [decide_eq_false c] at qe
        have hne : ¬ ps[k].1 - q.1 = 0 := fun w => c (by grind)
        have hn : (ps[k].1 - q.1).num ≠ 0 := fun w => hne (Rat.num_eq_zero.mp w)
        have m1 := e_minus (hz _ hp).2 (hz _ hq).2 (by decide) mu
        have m2 := e_minus (hz _ hp).1 (hz _ hq).1 (by decide) mu
        have m3 := e_through (Zb.sub (hz _ hp).2 (hz _ hq).2) (Zb.sub (hz _ hp).1 (hz _ hq).1) hn (by decide) mu
        simp [dq, ix, i0, i1, qe, m1, m2, m3, hsz, -fIx, -gEq]
        rw [if_neg c]
        exact ⟨l1 ++ [q], l2, by rw [el]; simp, rfl, some (.val (fr q.1)), trivial, some (.val (fr q.2)), trivial, some (.val (fr (ps[k].2 - q.2))), trivial, by rw [ed, e0, List.map_append]; rfl, rfl, rfl, rfl⟩
  · rintro s ⟨l1, l2, o4, o5, o6, el, e, n4, n5, n6, rfl⟩
    cases l2 with
    | cons _ _ => cases e
    | nil =>
      rw [List.append_nil] at el
      rw [el]
      exact ⟨rfl, o4, o5, o6, n4, n5, n6, rfl⟩
theorem dus_succ (k : Nat) : dus ps (k + 1) = dus ps k ++ du (ps.take k) (ps.getD k (0, 0)) := by
  unfold dus
  rw [List.range_succ, List.flatMap_append]
  simp
theorem dus_len : ∀ k : Nat, (dus ps k).length ≤ k * ps.length
  | 0 => by simp [dus]
  | k + 1 => by
    have ih := dus_len k
    have h : (du (ps.take k) (ps.getD k (0, 0))).length ≤ ps.length := by
      unfold du
      rw [List.length_map]
      exact Nat.le_trans (List.length_filter_le _ _) (by rw [List.length_take]; omega)
    rw [dus_succ, List.length_append, Nat.add_mul]
    omega
theorem medl_perm {a b : List Rat} (h : a.Perm b) : medl a = medl b := by
  unfold medl
  rw [rsort_congr h, h.length_eq]
theorem e_due {D B : Nat} (hl : ps.length ≤ 40) (hne : ps ≠ []) (h0 : 0 < D) (hD : D ≤ 2 ^ 30) (hB : 1 ≤ B) (hB2 : B ≤ 2 ^ 30) (zd : ∀ p ∈ ps, Zd D B p.1 ∧ Zd D B p.2) (hf : flatMs mu = true) :
    F_w_due_k30 [.lst (ps.map dq)] mu = .ok (if slp ps = [] then .non else .tup [fr (mb ps), fr (mh ps)]) mu := by
  have hz6 : ∀ p ∈ ps, Zb p.1 60 ∧ Zb p.2 60 := fun p hp => by
    have b1 : B * D ≤ 2 ^ 60 := Nat.le_trans (Nat.mul_le_mul hB2 hD) (by decide)
    have b2 : D ≤ 2 ^ 60 := Nat.le_trans hD (by decide)
    exact ⟨(zd p hp).1.zb h0 b1 b2, (zd p hp).2.zb h0 b1 b2⟩
  have hp := dus_perm ps
  have zs : ∀ q ∈ slp ps, Zb q 300 := fun q hq => (slp_zb hz6 q hq).le (by decide)
  have zs2 : ∀ q ∈ dus ps ps.length, Zb q 900 := fun q hq => (zs q (hp.mem_iff.mp hq)).le (by decide)
  have hdl := dus_len (ps := ps) ps.length
  have hsq : ps.length * ps.length ≤ 40 * 40 := Nat.mul_le_mul hl hl
  have hen : (rangeP 0 ps.length).length = ps.length := by simp [rangeP]
  have hloop : W (forL (gN 2) b_w_due_k30_2 (rangeP 0 ps.length) ⟨[some (.val (.lst (ps.map dq))), some (.own []), none, none, none, none, none], mu⟩) (fun g s => g = .nx ∧ ∃ o2 o4 o5 o6, noOwn o2 ∧ noOwn o4 ∧ noOwn o5 ∧ noOwn o6 ∧ s = ⟨[some (.val (.lst (ps.map dq))), some (.own ((dus ps ps.length).map fr)), o2, none, o4, o5, o6], mu⟩) := by
    refine W_forL (I := fun xs s => ∃ k o2 o4 o5 o6, xs = (rangeP 0 ps.length).drop k ∧ k ≤ ps.length ∧ noOwn o2 ∧ noOwn o4 ∧ noOwn o5 ∧ noOwn o6 ∧ s = ⟨[some (.val (.lst (ps.map dq))), some (.own ((dus ps k).map fr)), o2, none, o4, o5, o6], mu⟩) ⟨0, none, none, none, none, rfl, Nat.zero_le _, trivial, trivial, trivial, trivial, rfl⟩ ?_ ?_
    · rintro x ys s ⟨k, o2, o4, o5, o6, e, hk, n2, n4, n5, n6, rfl⟩
      have hlt : k < (rangeP 0 ps.length).length := by
        rcases Nat.lt_or_ge k (rangeP 0 ps.length).length with z | z
        · exact z
        · rw [List.drop_of_length_le z] at e; cases e
      rw [List.drop_eq_getElem_cons hlt] at e
      cases e
      have hlt2 : k < ps.length := by omega
      have ex : (rangeP 0 ps.length)[k] = .int (k : Int) := by simp [rangeP]
      rw [ex]
      have ec : cutP (ps.map dq) none (some (k : Int)) = (ps.map dq).take k := cut_take (by omega)
      have hdk := dus_len (ps := ps) k
      have hkk : k * ps.length ≤ 40 * 40 := Nat.mul_le_mul (by omega) hl
      have hw := w_du (mu := mu) hlt2 hl hz6 (f := dus ps k) (by omega) n4 n5 n6
      have eg : ps.getD k (0, 0) = ps[k] := by simp [List.getD, hlt2]
      rw [List.map_take] at hw
      unfold b_w_due_k30_2
      simp [ec]
      refine hw.mono fun g s z => ?_
      obtain ⟨rfl, p4, p5, p6, m4, m5, m6, rfl⟩ := z
      exact ⟨k + 1, some (.val (.int (k : Int))), p4, p5, p6, rfl, by omega, trivial, m4, m5, m6, by rw [dus_succ, eg]⟩
    · rintro s ⟨k, o2, o4, o5, o6, e, hk, n2, n4, n5, n6, rfl⟩
      have hk2 : ps.length ≤ k := by
        have := List.drop_eq_nil_iff.mp e.symm
        omega
      have : k = ps.length := by omega
      subst this
      exact ⟨rfl, o2, o4, o5, o6, n2, n4, n5, n6, rfl⟩
  obtain ⟨g, s, e3, rfl, o2, o4, o5, o6, n2, n4, n5, n6, rfl⟩ := hloop.out
  have ow : ∀ xs : List PV, ownIn [1] [some (.val (.lst (ps.map dq))), some (.own xs), o2, none, o4, o5, o6] = true := fun xs => by
    rcases o2 with _ | (_ | _) <;> rcases o4 with _ | (_ | _) <;> rcases o5 with _ | (_ | _) <;> rcases o6 with _ | (_ | _) <;> first
      | rfl
      | exact n2.elim
      | exact n4.elim
      | exact n5.elim
      | exact n6.elim
  have zb : Zb (mb ps) 700 ∨ slp ps = [] := by
    by_cases c : slp ps = []
    · exact .inr c
    · have := v_medB zs c
      exact .inl (this.le (by decide))
  have hw : W (F_w_due_k30 [.lst (ps.map dq)] mu) (fun v mu' => v = (if slp ps = [] then .non else .tup [fr (mb ps), fr (mh ps)]) ∧ mu' = mu) := by
    unfold F_w_due_k30 d_w_due_k30
    have hr : (ps.length : Int) < 2 ^ 62 := by omega
    simp [W_runBody]
    refine ⟨by omega, ?_⟩
    refine W.of e3 ?_
    by_cases c : slp ps = []
    · have hd : dus ps ps.length = [] := by
        rw [c] at hp
        exact hp.eq_nil
      rw [if_pos c, hd] at *
      simp [ow, froz1, hf, gEq_nil, -gEq]
    · have hd : dus ps ps.length ≠ [] := fun z => c (by rw [z] at hp; exact hp.symm.eq_nil)
      have hemp : ((dus ps ps.length).map fr).isEmpty = false := by
        cases e : dus ps ps.length with
        | nil => exact absurd e hd
        | cons a t => rfl
      have eh := e_half zs2 hd (by omega) mu
      rw [medl_perm hp, show mn (medl (slp ps)) = mb ps from rfl] at eh
      rw [if_neg c]
      have zb : Zb (mb ps) 700 := zb.resolve_right c
      have hm : ∀ p ∈ ps, Zb (p.2 - mb ps * p.1) 900 := fun p hp => (Zb.sub (hz6 p hp).2 (zb.mul (hz6 p hp).1)).le (by decide)
      have e7 := e_half (qs := ps.map fun p => p.2 - mb ps * p.1) (fun q hq => by
        obtain ⟨p, hp, rfl⟩ := List.mem_map.mp hq
        exact hm p hp) (fun z => hne (List.map_eq_nil_iff.mp z)) (by rw [List.length_map]; omega) mu
      rw [show mn (medl (ps.map fun p => p.2 - mb ps * p.1)) = mh ps from rfl, List.map_map] at e7
      have fP : flatP (fr (mb ps)) = true := rfl
      simp [ow, froz1, hf, gEq_nil, hemp, eh, fP, -gEq]
      refine W_compMap ps dq (fun p => fr (p.2 - mb ps * p.1)) (by omega) (fun p hp => ?_) ?_
      · have m1 := e_times zb (hz6 p hp).1 (by decide) mu
        have m2 := e_minus (hz6 p hp).2 (zb.mul (hz6 p hp).1) (by decide) mu
        simp [dq, wipeE, e_w_due_k30_3, m1, m2]
      · have e7 : F_w_half [.lst (ps.map fun p => fr (p.2 - mb ps * p.1))] mu = .ok (fr (mh ps)) mu := e7
        simp [wipeE, e7]
  obtain ⟨v, mu', e, rfl, rfl⟩ := hw.out
  exact e
end
end PX
set_option maxHeartbeats 1000000
namespace PX
open PySem L3 LD PC PD
theorem sl30_comm (p q : P2) : sl30 p q = sl30 q p := by
  unfold sl30
  rw [Rat.div_def, Rat.div_def, show p.2 - q.2 = -(q.2 - p.2) by grind, show p.1 - q.1 = -(q.1 - p.1) by grind]
  generalize q.1 - p.1 = d
  generalize q.2 - p.2 = e
  by_cases h : d = 0
  · subst h
    grind
  · have h2 : -d ≠ 0 := by grind
    have e1 := Rat.mul_inv_cancel d h
    have e2 := Rat.mul_inv_cancel (-d) h2
    grind
theorem slp_perm {ps qs : List P2} (h : ps.Perm qs) : (slp ps).Perm (slp qs) := by
  induction h with
  | nil => exact .refl _
  | cons x h ih => exact ((h.filter _).map _).append ih
  | swap x y l =>
    show (((x :: l).filter fun q : P2 => !decide (q.1 = y.1)).map (sl30 y) ++ (((l.filter fun q : P2 => !decide (q.1 = x.1)).map (sl30 x)) ++ slp l)).Perm (((y :: l).filter fun q : P2 => !decide (q.1 = x.1)).map (sl30 x) ++ (((l.filter fun q : P2 => !decide (q.1 = y.1)).map (sl30 y)) ++ slp l))
    by_cases c : x.1 = y.1
    · simp only [List.filter_cons, c, decide_true, Bool.not_true, Bool.false_eq_true, if_false]
      rw [← List.append_assoc, ← List.append_assoc]
      exact List.Perm.append_right _ List.perm_append_comm
    · have c2 : ¬ y.1 = x.1 := fun z => c z.symm
      simp only [List.filter_cons, c, c2, decide_false, Bool.not_false, if_true, List.map_cons]
      rw [sl30_comm x y, ← List.append_assoc, ← List.append_assoc]
      refine List.Perm.append_right _ ?_
      exact List.Perm.cons _ List.perm_append_comm
  | trans _ _ h1 h2 => exact h1.trans h2
theorem mb_perm {ps qs : List P2} (h : ps.Perm qs) : mb ps = mb qs := by
  unfold mb
  rw [medl_perm (slp_perm h)]
theorem mh_perm {ps qs : List P2} (h : ps.Perm qs) : mh ps = mh qs := by
  unfold mh
  rw [mb_perm h, medl_perm (h.map _)]
theorem slp_nil {ps qs : List P2} (h : ps.Perm qs) (e : slp ps = []) : slp qs = [] := by
  have := slp_perm h
  rw [e] at this
  exact this.symm.eq_nil
theorem told30 : F_w_told_k30 = F_w_told_k28 := rfl
theorem word_many (v : PV) (mu : List MO) : F_w_word [.exc "TooMany" ["most"] [v]] mu = .ok (.tup [.str "many", v]) mu := by kernel_rfl
/-- more than forty pairs -/
theorem e_many {ps : List P2} {ts : List PV} {sm : PV} (h : PP ps ts) (hs : sm = .lst ts ∨ sm = .tup ts) (hl : 40 < ps.length) (hl2 : ps.length ≤ 1000) (mu : List MO) : F_middle_line [sm] mu = .exn (.exc "TooMany" ["most"] [.int 40]) mu := by
  have e1 := e_need_pairs h hs hl2 mu
  have l40 : (40 : Int) < (ps.length : Int) := by omega
  simp [F_middle_line, runBody, d_middle_line, e1, l40]
end PX
set_option maxHeartbeats 1000000
namespace PX
open PySem L3 LD PC PD
section
variable {env : List (Option SV)} {mu : List MO} {sm : PV} {b h : Rat}
theorem tl1_ok (h6 : env[6]? = some (some (.val sm))) (hc : F_middle_line [sm] mu = .ok (.ptr mu.length) (mu ++ [lnO b h])) : dLam F_w_told_k30 l_w_right_k30_1 ⟨env, mu⟩ = .ok (.lst [.tup [fr b, fr h]]) ⟨env, mu ++ [lnO b h]⟩ := by
  have a := var_capt (mu := mu) h6
  have es := e_seen (b := b) (h := h) (mu := mu ++ [lnO b h]) (n := mu.length) get_last
  rw [told30]
  exact told_ok (v := .tup [fr b, fr h]) (s' := ⟨capt env, mu ++ [lnO b h]⟩) (by simp [l_w_right_k30_1, -dVar, a, hc, es])
theorem tl1_no (h6 : env[6]? = some (some (.val sm))) (hc : F_middle_line [sm] mu = .exn (.exc "NoSpread" [] []) mu) : dLam F_w_told_k30 l_w_right_k30_1 ⟨env, mu⟩ = .ok (.tup [.str "spread", .non]) ⟨env, mu⟩ := by
  have a := var_capt (mu := mu) h6
  rw [told30]
  exact told_exn (c := "NoSpread") (ns := []) (ys := []) (s' := ⟨capt env, mu⟩) (by simp [l_w_right_k30_1, -dVar, a, hc]) (by decide +kernel) (word_spread mu)
theorem tl2_ok (h5 : env[5]? = some (some (.val sm))) (hc : F_middle_line [sm] mu = .ok (.ptr mu.length) (mu ++ [lnO b h])) : dLam F_w_told_k30 l_w_right_k30_2 ⟨env, mu⟩ = .ok (.lst [.tup [fr b, fr h]]) ⟨env, mu ++ [lnO b h]⟩ := by
  have a := var_capt (mu := mu) h5
  have es := e_seen (b := b) (h := h) (mu := mu ++ [lnO b h]) (n := mu.length) get_last
  have eP : ∀ x : PV, pick3 [(2, 0)] [] [] [x] = [x] := fun _ => rfl
  rw [told30]
  exact told_ok (v := .tup [fr b, fr h]) (s' := ⟨capt env, mu ++ [lnO b h]⟩) (by simp [l_w_right_k30_2, -dVar, a, hc, es, eP])
theorem tl2_no (h5 : env[5]? = some (some (.val sm))) (hc : F_middle_line [sm] mu = .exn (.exc "NoSpread" [] []) mu) : dLam F_w_told_k30 l_w_right_k30_2 ⟨env, mu⟩ = .ok (.tup [.str "spread", .non]) ⟨env, mu⟩ := by
  have a := var_capt (mu := mu) h5
  have eP : ∀ x : PV, pick3 [(2, 0)] [] [] [x] = [x] := fun _ => rfl
  rw [told30]
  exact told_exn (c := "NoSpread") (ns := []) (ys := []) (s' := ⟨capt env, mu⟩) (by simp [l_w_right_k30_2, -dVar, a, hc, eP]) (by decide +kernel) (word_spread mu)
end
end PX
set_option maxHeartbeats 1000000
namespace PX
open PySem L3 LD PC PD
section
variable {mu : List MO} {n k : Nat} {Q : PV → List MO → Prop}
theorem w_right30 (h : Src mu n k) (hk : k ≤ 5000) (i : ∀ mu', Src mu' n (k + 100) → Q (.bl true) mu') : W (F_w_right_k30 [.ptr n] mu) Q := by
  unfold F_w_right_k30 d_w_right_k30
  simp [W_runBody]
  refine w_dots (a := 1) (b := 7) h (by omega) (by decide) (by decide) fun ps m1 hz l1 l8 h1 => ?_
  have hne : ps ≠ [] := fun z => by rw [z] at l1; simp at l1
  have ep := fun mu => e_paired hz (by omega) mu
  have f1 : flatMs m1 = true := h1.flat
  have e3 := e_due (D := 60) (B := 30) (mu := m1) (by omega) hne (by decide) (by decide) (by decide) (by decide) hz f1
  have lo := e_middle (D := 60) (B := 30) (pp_gq ps) (.inl rfl) (by omega) hne (by decide) (by decide) (by decide) (by decide) hz m1 f1
  have ec : ∀ o2 o3 o4 o5 mu, compL (gN 7) dYes (dFnS F_w_kept (dCons (dVar 7) dNil)) [7] (ps.map gq) [] ⟨[some (.val (.ptr n)), some (.val (.lst (ps.map dq))), o2, o3, o4, o5, some (.val (.lst (ps.map gq))), none], mu⟩ = .ok (ps.map kq) ⟨[some (.val (.ptr n)), some (.val (.lst (ps.map dq))), o2, o3, o4, o5, some (.val (.lst (ps.map gq))), none], mu⟩ := fun o2 o3 o4 o5 mu => comp_eq ps gq kq (by omega) fun p hp => by
    have := e_keptP p mu
    simp [this, wipeE]
  have qk : ∀ st, gEq false (.lst (ps.map kq)) (.lst (ps.map kq)) st = .ok (.bl true) st := fun st => gEq_self false (show okD 8 (.lst (ps.map kq)) = true from okDL_kqs ps) st
  by_cases h0 : slp ps = []
  · simp only [if_pos h0] at lo e3
    simp [ep, e3, ec, wipeE, -List.map_map, -gEq]
    rw [tl1_no (sm := .lst (ps.map gq)) rfl lo]
    simp [-List.map_map, -gEq]
    refine w_mixedP h1 (by omega) (by omega) fun qs m2 hp h2 => ?_
    have ql := hp.length_eq
    have hqn : qs ≠ [] := fun z => hne (List.length_eq_zero_iff.mp (by rw [← ql, z]; rfl))
    have l2 := e_middle (D := 60) (B := 30) (pp_gq qs) (.inr rfl) (by omega) hqn (by decide) (by decide) (by decide) (by decide) (fun p hp2 => hz p (hp.mem_iff.mp hp2)) m2 h2.flat
    simp only [if_pos (slp_nil hp.symm h0)] at l2
    have qlt : qs.length ≤ 16777216 := by omega
    simp [qlt, -List.map_map, -gEq]
    rw [tl2_no (sm := .tup (qs.map gq)) rfl l2]
    have q4 : ∀ st, gEq false (.lst [.tup [.str "spread", .non], .tup [.str "spread", .non]]) (.lst [.tup [.str "spread", .non], .tup [.str "spread", .non]]) st = .ok (.bl true) st := fun st => gEq_self false (by decide +kernel) st
    simp [frozS, froz1, q4, qk, ec, wipeE, -List.map_map, -gEq]
    exact i _ (h2.src.le (by omega))
  · simp only [if_neg h0] at lo e3
    simp [ep, e3, ec, wipeE, -List.map_map, -gEq]
    rw [tl1_ok (sm := .lst (ps.map gq)) rfl lo]
    simp [-List.map_map, -gEq]
    have s1 : SrcR (fun _ => True) (m1 ++ [lnO (mb ps) (mh ps)]) n (k + 1 + 8 * 7) := src_app h1 (by simp [lnO, flatL, flatP]) trivial (fun _ _ _ => trivial)
    refine w_mixedP s1 (by omega) (by omega) fun qs m2 hp h2 => ?_
    have ql := hp.length_eq
    have hqn : qs ≠ [] := fun z => hne (List.length_eq_zero_iff.mp (by rw [← ql, z]; rfl))
    have l2 := e_middle (D := 60) (B := 30) (pp_gq qs) (.inr rfl) (by omega) hqn (by decide) (by decide) (by decide) (by decide) (fun p hp2 => hz p (hp.mem_iff.mp hp2)) m2 h2.flat
    have hq0 : ¬ slp qs = [] := fun z => h0 (slp_nil hp z)
    simp only [if_neg hq0, mb_perm hp, mh_perm hp] at l2
    have qlt : qs.length ≤ 16777216 := by omega
    simp [qlt, -List.map_map, -gEq]
    rw [tl2_ok (sm := .tup (qs.map gq)) rfl l2]
    have s3 : SrcR (fun _ => True) (m2 ++ [lnO (mb ps) (mh ps)]) n (k + 1 + 8 * 7 + ps.length) := src_app h2 (by simp [lnO, flatL, flatP]) trivial (fun _ _ _ => trivial)
    have q4 : ∀ st, gEq false (.lst [.lst [.tup [fr (mb ps), fr (mh ps)]], .lst [.tup [fr (mb ps), fr (mh ps)]]]) (.lst [.lst [.tup [fr (mb ps), fr (mh ps)]], .lst [.tup [fr (mb ps), fr (mh ps)]]]) st = .ok (.bl true) st := fun st => gEq_self false (by simp [fr, okD, okDL]) st
    simp [frozS, froz1, q4, qk, ec, wipeE, -List.map_map, -gEq]
    exact i _ (s3.src.le (by omega))
end
end PX
set_option maxHeartbeats 1000000
namespace PX
open PySem L3 LD PC PD
theorem getD_major {l : List Rat} (hs : l.Pairwise (fun a b => a ≤ b)) {c : Rat} {j : Nat} (hj : j < l.length) (h1 : l.length - (j + 1) < l.count c) (h2 : j < l.count c) : l.getD j 0 = c := by
  rw [show l.getD j 0 = l[j] by simp [List.getD, hj]]
  have e : l = l.take j ++ l[j] :: l.drop (j + 1) := by rw [List.getElem_cons_drop, List.take_append_drop]
  have hp := hs
  rw [e, List.pairwise_append, List.pairwise_cons] at hp
  obtain ⟨_, ⟨p2, _⟩, p3⟩ := hp
  have hc : l.count c = (l.take j).count c + ((if l[j] = c then 1 else 0) + (l.drop (j + 1)).count c) := by
    conv => lhs; rw [e]
    rw [List.count_append, List.count_cons]
    simp only [beq_iff_eq]
    omega
  have l1 : (l.take j).count c ≤ j := Nat.le_trans List.count_le_length (by rw [List.length_take]; omega)
  have l2 : (l.drop (j + 1)).count c ≤ l.length - (j + 1) := Nat.le_trans List.count_le_length (by rw [List.length_drop]; omega)
  by_cases hq : l[j] = c
  · exact hq
  · rw [if_neg hq] at hc
    have z : (l.take j).count c = 0 ∨ (l.drop (j + 1)).count c = 0 := by
      by_cases hlt : l[j] < c
      · refine .inl (List.count_eq_zero.mpr fun hm => ?_)
        have := p3 c hm l[j] (List.mem_cons_self)
        grind
      · refine .inr (List.count_eq_zero.mpr fun hm => ?_)
        have := p2 c hm
        grind
    omega
theorem mn_major {qs : List Rat} {c : Rat} (h : qs.length / 2 < qs.count c) : mn (medl qs) = c := by
  have hl := rsort_len qs
  have hp : (rsort qs).count c = qs.count c := (rsort_perm qs).count_eq c
  have h0 : qs.count c ≤ qs.length := List.count_le_length
  have hs : (rsort qs).Pairwise (fun a b => a ≤ b) := (rsort_sorted qs).imp fun {a b} h => by simpa [leQ] using h
  unfold medl
  rw [getD_major (c := c) hs (by omega) (by omega) (by omega), getD_major (c := c) hs (by omega) (by omega) (by omega), mn_two]
  grind
/-- five pairs on a line, one of them moved -/
def mv30 (by' up far : Rat) (a : Nat) : List P2 := (List.range 5).map fun (x : Nat) => (((x : Int) : Rat), if x = a then far else up + by' * ((x : Int) : Rat))
theorem sl_line {b u : Rat} {x y : Rat} (h : y - x ≠ 0) : sl30 (x, u + b * x) (y, u + b * y) = b := by
  unfold sl30
  show (u + b * y - (u + b * x)) / (y - x) = b
  rw [show u + b * y - (u + b * x) = b * (y - x) by grind]
  exact Rat.mul_div_cancel h
theorem mb_moved {b u far : Rat} {a : Nat} (ha : a < 5) : mb (mv30 b u far a) = b := by
  unfold mb
  refine mn_major ?_
  have q : ∀ x y : Rat, y - x ≠ 0 → (u + b * y - (u + b * x)) / (y - x) = b := fun x y h => sl_line h
  have q01 := q 0 1 (by decide +kernel)
  have q02 := q 0 2 (by decide +kernel)
  have q03 := q 0 3 (by decide +kernel)
  have q04 := q 0 4 (by decide +kernel)
  have q12 := q 1 2 (by decide +kernel)
  have q13 := q 1 3 (by decide +kernel)
  have q14 := q 1 4 (by decide +kernel)
  have q23 := q 2 3 (by decide +kernel)
  have q24 := q 2 4 (by decide +kernel)
  have q34 := q 3 4 (by decide +kernel)
  have n0 : (((0 : Nat) : Int) : Rat) = 0 := rfl
  have n1 : (((1 : Nat) : Int) : Rat) = 1 := rfl
  have n2 : (((2 : Nat) : Int) : Rat) = 2 := rfl
  have n3 : (((3 : Nat) : Int) : Rat) = 3 := rfl
  have n4 : (((4 : Nat) : Int) : Rat) = 4 := rfl
  have l5 : List.range 5 = [0, 1, 2, 3, 4] := rfl
  have hs : ∀ f0 f1 f2 f3 f4 : Rat, slp [(0, f0), (1, f1), (2, f2), (3, f3), (4, f4)] = [(f1 - f0) / (1 - 0), (f2 - f0) / (2 - 0), (f3 - f0) / (3 - 0), (f4 - f0) / (4 - 0), (f2 - f1) / (2 - 1), (f3 - f1) / (3 - 1), (f4 - f1) / (4 - 1), (f3 - f2) / (3 - 2), (f4 - f2) / (4 - 2), (f4 - f3) / (4 - 3)] := fun _ _ _ _ _ => rfl
  unfold mv30
  rw [l5]
  simp only [List.map_cons, List.map_nil, n0, n1, n2, n3, n4, hs]
  have hh : a = 0 ∨ a = 1 ∨ a = 2 ∨ a = 3 ∨ a = 4 := by omega
  rcases hh with rfl | rfl | rfl | rfl | rfl
  all_goals
    simp only [if_true, if_false, Nat.reduceEqDiff, reduceIte, q01, q02, q03, q04, q12, q13, q14, q23, q24, q34, List.count_cons, List.length_cons, List.length_nil, List.count_nil, beq_self_eq_true]
    omega
theorem mh_moved {b u far : Rat} {a : Nat} (ha : a < 5) : mh (mv30 b u far a) = u := by
  unfold mh
  rw [mb_moved ha]
  refine mn_major ?_
  have q : ∀ x : Rat, u + b * x - b * x = u := fun x => by grind
  have l5 : List.range 5 = [0, 1, 2, 3, 4] := rfl
  unfold mv30
  rw [l5]
  simp only [List.map_cons, List.map_nil]
  have hh : a = 0 ∨ a = 1 ∨ a = 2 ∨ a = 3 ∨ a = 4 := by omega
  rcases hh with rfl | rfl | rfl | rfl | rfl
  all_goals
    simp only [if_true, if_false, Nat.reduceEqDiff, reduceIte, q, List.count_cons, List.length_cons, List.length_nil, List.count_nil, beq_self_eq_true]
    omega
end PX
set_option maxHeartbeats 1000000
namespace PX
open PySem L3 LD PC PD
theorem e_line30 {b u : Rat} (hb : Zd 60 30 b) (hu : Zd 60 30 u) (o1 o2 o3 : Option SV) (p : SV) (mu : List MO) : compL (gN 6) dYes e_w_moved_right_k30_1 [6] ((List.range 5).map fun (x : Nat) => .int ((x : Nat) : Int)) [] ⟨[some p, o1, o2, o3, some (.val (fr b)), some (.val (fr u)), none], mu⟩ = .ok ((List.range 5).map fun (x : Nat) => .tup [fr ((x : Int) : Rat), fr (u + b * ((x : Int) : Rat))]) ⟨[some p, o1, o2, o3, some (.val (fr b)), some (.val (fr u)), none], mu⟩ := by
  refine comp_eq (List.range 5) (fun (x : Nat) => .int (x : Int)) _ (by decide) fun x hx => ?_
  have hx5 : x < 5 := List.mem_range.mp hx
  have zx : Zb ((x : Int) : Rat) 10 := ((Zd.int (i := (x : Int)) (B := 5) (by omega)).zb (b := 10) (by decide) (by decide) (by decide)).le (by decide)
  have zb := hb.zb (by decide) (show 30 * 60 ≤ 2 ^ 20 by decide) (by decide)
  have zu := hu.zb (by decide) (show 30 * 60 ≤ 2 ^ 20 by decide) (by decide)
  have e1 := fun mu => e_times zb zx (by decide) mu
  have e2 := fun mu => e_plus zu (zb.mul zx) (by decide) mu
  have q : PV.tup [.int (x : Int), .int 1] = fr ((x : Int) : Rat) := rfl
  simp [e_w_moved_right_k30_1, q, e1, e2, wipeE]
end PX
set_option maxHeartbeats 1000000
namespace PX
open PySem L3 LD PC PD
theorem e_pairedH {D B : Nat} {ps : List P2} (s : Sm D B) (hz : ∀ p ∈ ps, Zd D B p.1 ∧ Zd D B p.2) (hl : ps.length ≤ 1000) (mu : List MO) : F_w_paired [.lst (ps.map dq)] mu = .ok (.lst (ps.map gq)) mu := by
  have e := comp_eq (tg := gT 2 (gCons (gN 1) (gCons (gN 2) gNil))) (te := e_w_paired_1) (vs := [1, 2]) (s := ⟨[some (.val (.lst (ps.map dq))), none, none], mu⟩) ps dq gq (by omega) (fun p hp => by
    have g := z_given s (qs := [p.1, p.2]) (fun q hq => by
      rcases List.mem_cons.mp hq with h | h
      · rw [h]; exact (hz p hp).1
      · rw [List.mem_singleton.mp h]; exact (hz p hp).2) (by show 2 ≤ 10000; decide) mu
    simp only [List.map_cons, List.map_nil] at g
    simp [dq, e_w_paired_1, g, gq, wipeE])
  simp [F_w_paired, runBody, d_w_paired, e, wipeE, -List.map_map]
section
variable {mu : List MO} {n k : Nat} {Q : PV → List MO → Prop}
theorem w_moved30 (h : Src mu n k) (hk : k ≤ 5000) (i : ∀ mu', Src mu' n (k + 100) → Q (.bl true) mu') : W (F_w_moved_right_k30 [.ptr n] mu) Q := by
  unfold F_w_moved_right_k30 d_w_moved_right_k30
  simp [W_runBody]
  refine w_drawn h (by omega) fun b m1 zb h1 => ?_
  simp
  refine w_drawn h1 (by omega) fun u m2 zu h2 => ?_
  simp
  refine w_next h2 (by omega) (by decide) (by decide +kernel) fun a m3 a1 a2 h3 => ?_
  have el := fun o1 o2 o3 p mu => e_line30 zb zu o1 o2 o3 p mu
  have er : rangeP 0 5 = (List.range 5).map fun (x : Nat) => .int (x : Int) := rfl
  simp [er, el, wipeE, -List.map_map]
  refine w_next h3 (m := 2000) (by omega) (by decide) (by decide +kernel) fun c m4 c1 c2 h4 => ?_
  have hc : (-4611686018427387904 : Int) ≤ c - 1000 ∧ c - 1000 < 4611686018427387904 := by omega
  simp [hc, -List.map_map]
  refine w_next h4 (m := 3) (by omega) (by decide) (by decide +kernel) fun d m5 d1 d2 h5 => ?_
  have hd : (-4611686018427387904 : Int) ≤ 1 + d ∧ 1 + d < 4611686018427387904 := by omega
  have lw := fun mu => e_low (c - 1000) (1 + d) mu (by omega) (by have := ib_le (i := 1 + d) (b := 10) (by omega); omega)
  simp [hd, lw, -List.map_map]
  have zf : Zd 60 1000 (Rat.divInt (c - 1000) (1 + d)) := Zd.divInt (by omega) (by
    have : 1 + d = 1 ∨ 1 + d = 2 ∨ 1 + d = 3 := by omega
    rcases this with e | e | e <;> rw [e] <;> decide) (by omega)
  have zp : ∀ k : Nat, ∀ p ∈ mv30 b u (Rat.divInt (c - 1000) (1 + d)) k, Zd 60 1000 p.1 ∧ Zd 60 1000 p.2 := fun k p hp => by
    obtain ⟨x, hx, rfl⟩ := List.mem_map.mp hp
    have hx5 : x < 5 := List.mem_range.mp hx
    have zx : Zd 1 5 ((x : Int) : Rat) := Zd.int (by omega)
    refine ⟨zx.mono (by decide) (by decide), ?_⟩
    show Zd 60 1000 (if x = k then _ else _)
    split
    · exact zf
    · exact (zu.add (by decide) (zb.mul zx)).mono (by decide) (by decide)
  have ep := fun k mu => e_pairedH ⟨by decide, by decide +kernel, by decide +kernel⟩ (zp k) (by simp [mv30]) mu
  have em := fun k => e_middle (D := 60) (B := 1000) (pp_gq (mv30 b u (Rat.divInt (c - 1000) (1 + d)) k)) (.inl rfl) (by simp [mv30]) (by simp [mv30]) (by decide) (by decide) (by decide) (by decide) (zp k) m5 h5.flat
  have hne : ∀ k, ¬ slp (mv30 b u (Rat.divInt (c - 1000) (1 + d)) k) = [] := fun k => List.cons_ne_nil _ _
  have e0 : ∀ k, k < 5 → F_middle_line [.lst ((mv30 b u (Rat.divInt (c - 1000) (1 + d)) k).map gq)] m5 = .ok (.ptr m5.length) (m5 ++ [lnO b u]) := fun k hk => by
    rw [em k, if_neg (hne k), mb_moved hk, mh_moved hk]
  have es := e_seen (b := b) (h := u) (mu := m5 ++ [lnO b u]) (n := m5.length) get_last
  have qe : ∀ st, gEq false (.tup [fr b, fr u]) (.tup [fr b, fr u]) st = .ok (.bl true) st := fun st => gEq_self false (by simp [fr, okD, okDL]) st
  have s6 : SrcR (fun _ => True) (m5 ++ [lnO b u]) n (k + 3 + 3 + 1 + 1 + 1) := src_app h5 (by simp [lnO, flatL, flatP]) trivial (fun _ _ _ => trivial)
  have l5 : List.range 5 = [0, 1, 2, 3, 4] := rfl
  have hh : a = 0 ∨ a = 1 ∨ a = 2 ∨ a = 3 ∨ a = 4 := by omega
  simp only [l5, List.map_cons, List.map_nil]
  have at3 : ∀ a b c d e : PV, L2.atI [a, b, c, d, e] 3 = some d := fun _ _ _ _ _ => rfl
  have at4 : ∀ a b c d e : PV, L2.atI [a, b, c, d, e] 4 = some e := fun _ _ _ _ _ => rfl
  rcases hh with rfl | rfl | rfl | rfl | rfl
  · simp [at3, at4, -Rat.mul_zero, -Rat.mul_one, -gEq]
    first
      | refine And.intro (Nat.le_of_ble_eq_true rfl) (And.intro (Nat.le_of_ble_eq_true rfl) ?_)
      | refine And.intro (Nat.le_of_ble_eq_true rfl) ?_
      | skip
    have e := ep 0 m5
    erw [e]
    simp [e0 0 (by decide), es, qe, -gEq, -List.map_map]
    exact i _ (s6.src.le (by omega))
  · simp [at3, at4, -Rat.mul_zero, -Rat.mul_one, -gEq]
    first
      | refine And.intro (Nat.le_of_ble_eq_true rfl) (And.intro (Nat.le_of_ble_eq_true rfl) ?_)
      | refine And.intro (Nat.le_of_ble_eq_true rfl) ?_
      | skip
    have e := ep 1 m5
    erw [e]
    simp [e0 1 (by decide), es, qe, -gEq, -List.map_map]
    exact i _ (s6.src.le (by omega))
  · simp [at3, at4, -Rat.mul_zero, -Rat.mul_one, -gEq]
    first
      | refine And.intro (Nat.le_of_ble_eq_true rfl) (And.intro (Nat.le_of_ble_eq_true rfl) ?_)
      | refine And.intro (Nat.le_of_ble_eq_true rfl) ?_
      | skip
    have e := ep 2 m5
    erw [e]
    simp [e0 2 (by decide), es, qe, -gEq, -List.map_map]
    exact i _ (s6.src.le (by omega))
  · simp [at3, at4, -Rat.mul_zero, -Rat.mul_one, -gEq]
    first
      | refine And.intro (Nat.le_of_ble_eq_true rfl) (And.intro (Nat.le_of_ble_eq_true rfl) ?_)
      | refine And.intro (Nat.le_of_ble_eq_true rfl) ?_
      | skip
    have e := ep 3 m5
    erw [e]
    simp [e0 3 (by decide), es, qe, -gEq, -List.map_map]
    exact i _ (s6.src.le (by omega))
  · simp [at3, at4, -Rat.mul_zero, -Rat.mul_one, -gEq]
    first
      | refine And.intro (Nat.le_of_ble_eq_true rfl) (And.intro (Nat.le_of_ble_eq_true rfl) ?_)
      | refine And.intro (Nat.le_of_ble_eq_true rfl) ?_
      | skip
    have e := ep 4 m5
    erw [e]
    simp [e0 4 (by decide), es, qe, -gEq, -List.map_map]
    exact i _ (s6.src.le (by omega))
end
end PX
set_option maxHeartbeats 1000000
namespace PX
open PySem L3 LD PC PD
/-- equal pairs have no slope -/
theorem slp_rep (p : P2) : ∀ n : Nat, slp (List.replicate n p) = []
  | 0 => rfl
  | n + 1 => by
    rw [List.replicate_succ]
    show ((List.replicate n p).filter fun q => !decide (q.1 = p.1)).map (sl30 p) ++ slp (List.replicate n p) = []
    rw [slp_rep p n]
    simp
end PX
set_option maxHeartbeats 1000000
namespace PX
open PySem L3 LD PC PD
theorem getD_mid {l : List Rat} (hs : l.Pairwise (fun a b => a ≤ b)) {c : Rat} {j : Nat} (hj : j < l.length) (h1 : l.countP (fun q => decide (q < c)) ≤ j) (h2 : l.countP (fun q => decide (c < q)) + j < l.length) : l.getD j 0 = c := by
  rw [show l.getD j 0 = l[j] by simp [List.getD, hj]]
  have e : l = l.take j ++ l[j] :: l.drop (j + 1) := by rw [List.getElem_cons_drop, List.take_append_drop]
  have hp := hs
  rw [e, List.pairwise_append, List.pairwise_cons] at hp
  obtain ⟨_, ⟨p2, _⟩, p3⟩ := hp
  have hc : ∀ f : Rat → Bool, l.countP f = (l.take j).countP f + ((l.drop (j + 1)).countP f + (if f l[j] = true then 1 else 0)) := fun f => by
    conv => lhs; rw [e]
    rw [List.countP_append, List.countP_cons]
  by_cases hlt : l[j] < c
  · have a : (l.take j).countP (fun q => decide (q < c)) = (l.take j).length := List.countP_eq_length.mpr fun q hq => decide_eq_true (by
      have := p3 q hq l[j] List.mem_cons_self
      grind)
    have := hc fun q => decide (q < c)
    rw [a, List.length_take, if_pos (decide_eq_true hlt)] at this
    omega
  · by_cases hgt : c < l[j]
    · have a : (l.drop (j + 1)).countP (fun q => decide (c < q)) = (l.drop (j + 1)).length := List.countP_eq_length.mpr fun q hq => decide_eq_true (by
        have := p2 q hq
        grind)
      have := hc fun q => decide (c < q)
      rw [a, List.length_drop, if_pos (decide_eq_true hgt)] at this
      omega
    · grind
theorem mn_mid {qs : List Rat} {c : Rat} {a b n : Nat} (hn : qs.length = n) (h1 : qs.countP (fun q => decide (q < c)) = a) (h2 : qs.countP (fun q => decide (c < q)) = b) (ha : a ≤ (n - 1) / 2) (hb : b + n / 2 < n) : mn (medl qs) = c := by
  have hl := rsort_len qs
  have p1 := (rsort_perm qs).countP_eq (fun q => decide (q < c))
  have p2 := (rsort_perm qs).countP_eq (fun q => decide (c < q))
  have hs : (rsort qs).Pairwise (fun a b => a ≤ b) := (rsort_sorted qs).imp fun {a b} h => by simpa [leQ] using h
  unfold medl
  rw [getD_mid (c := c) hs (by omega) (by omega) (by omega), getD_mid (c := c) hs (by omega) (by omega) (by omega), mn_two]
  grind
def sq30 : List P2 := (List.range 40).map fun (x : Nat) => (((x : Int) : Rat), ((x : Int) : Rat) * ((x : Int) : Rat))
theorem mb_sq : mb sq30 = 39 := by
  unfold mb
  exact mn_mid (c := 39) (a := 380) (b := 380) (n := 780) (by decide +kernel) (by decide +kernel) (by decide +kernel) (by decide) (by decide)
end PX
set_option maxHeartbeats 1000000
namespace PX
open PySem L3 LD PC PD
def sqt30 : List PV := (List.range 40).map fun (x : Nat) => .tup [.int (x : Int), .int ((x : Int) * (x : Int))]
theorem pp_sqs : ∀ l : List Nat, PP (l.map fun (x : Nat) => (((x : Int) : Rat), ((x : Int) : Rat) * ((x : Int) : Rat))) (l.map fun (x : Nat) => .tup [.int (x : Int), .int ((x : Int) * (x : Int))])
  | [] => .nil
  | x :: l => .cons (is_int (x : Int)) (by
    have := is_int ((x : Int) * (x : Int))
    rwa [Rat.intCast_mul] at this) (pp_sqs l)
theorem pp_sq : PP sq30 sqt30 := pp_sqs _
theorem zd_sq : ∀ p ∈ sq30, Zd 1 2000 p.1 ∧ Zd 1 2000 p.2 := fun p hp => by
  have : sq30.all (fun p => decide (p.1.den ∣ 1 ∧ p.1.num.natAbs ≤ 2000 * p.1.den ∧ p.2.den ∣ 1 ∧ p.2.num.natAbs ≤ 2000 * p.2.den)) = true := by decide +kernel
  have := of_decide_eq_true (List.all_eq_true.mp this p hp)
  exact ⟨⟨this.1, this.2.1⟩, ⟨this.2.2.1, this.2.2.2⟩⟩
end PX
set_option maxHeartbeats 1000000
namespace PX
open PySem L3 LD PC PD
section
variable {env : List (Option SV)} {mu : List MO}
theorem slp_sq : ¬ slp sq30 = [] := fun z => by
  have h : (slp sq30).length = 780 := by decide +kernel
  rw [z] at h
  cases h
theorem sq_line (mu : List MO) (hf : flatMs mu = true) : F_middle_line [.lst sqt30] mu = .ok (.ptr mu.length) (mu ++ [lnO 39 (mh sq30)]) := by
  rw [e_middle (D := 1) (B := 2000) pp_sq (.inl rfl) (by simp [sq30]) (by simp [sq30]) (by decide) (by decide) (by decide) (by decide) zd_sq mu hf, if_neg slp_sq, mb_sq]
theorem th4 (h2 : env[2]? = some (some (.val (.lst sqt30)))) (hf : flatMs mu = true) : dLam F_w_told_k30 l_law_k30_4 ⟨env, mu⟩ = .ok (.lst [.tup [.int 39, .int 1]]) ⟨env, mu ++ [lnO 39 (mh sq30)]⟩ := by
  have a := var_capt (mu := mu) h2
  have es := e_seen (b := 39) (h := mh sq30) (mu := mu ++ [lnO 39 (mh sq30)]) (n := mu.length) get_last
  have f : fr (39 : Rat) = .tup [.int 39, .int 1] := rfl
  rw [told30]
  exact told_ok (v := .tup [.int 39, .int 1]) (s' := ⟨capt env, mu ++ [lnO 39 (mh sq30)]⟩) (by simp [l_law_k30_4, -dVar, a, sq_line mu hf, es, f])
end
end PX
set_option maxHeartbeats 1000000
namespace PX
open PySem L3 LD PC PD
section
variable {env : List (Option SV)} {mu : List MO}
theorem pp_rep (n : Nat) : PP (List.replicate n (((1 : Int) : Rat), ((1 : Int) : Rat))) (List.replicate n (.tup [.int 1, .int 1])) := by
  induction n with
  | zero => exact .nil
  | succ n ih => exact .cons (is_int 1) (is_int 1) ih
theorem pp_app {a b : List P2} {x y : List PV} (h1 : PP a x) (h2 : PP b y) : PP (a ++ b) (x ++ y) := by
  induction h1 with
  | nil => exact h2
  | cons p q r ih => exact .cons p q ih
theorem th5 (h2 : env[2]? = some (some (.val (.lst sqt30)))) : dLam F_w_told_k30 l_law_k30_5 ⟨env, mu⟩ = .ok (.tup [.str "many", .int 40]) ⟨env, mu⟩ := by
  have a := var_capt (mu := mu) h2
  have e := e_many (pp_app pp_sq (show PP [(((7 : Int) : Rat), ((7 : Int) : Rat))] [.tup [.int 7, .int 7]] from .cons (is_int 7) (is_int 7) .nil)) (.inl rfl) (by simp [sq30]) (by simp [sq30]) mu
  have l : sqt30.length = 40 := by simp [sqt30]
  rw [told30]
  exact told_exn (c := "TooMany") (ns := ["most"]) (ys := [.int 40]) (s' := ⟨capt env, mu⟩) (by simp [l_law_k30_5, -dVar, a, e, l]) (by decide +kernel) (word_many _ mu)
theorem th6 : dLam F_w_told_k30 l_law_k30_6 ⟨env, mu⟩ = .ok (.tup [.str "many", .int 40]) ⟨env, mu⟩ := by
  have e := e_many (pp_rep 41) (.inl rfl) (by simp) (by simp) mu
  rw [told30]
  exact told_exn (c := "TooMany") (ns := ["most"]) (ys := [.int 40]) (s' := ⟨capt env, mu⟩) (by
    have q : ∀ st, gMul (.lst [.tup [.int 1, .int 1]]) (.int 41) st = .ok (.lst (List.replicate 41 (.tup [.int 1, .int 1]))) st := fun st => rfl
    simp [l_law_k30_6, q, e, -gMul, -List.replicate_succ, -List.reduceReplicate]) (by decide +kernel) (word_many _ mu)
end
end PX
set_option maxHeartbeats 1000000
namespace PX
open PySem L3 LD PC PD
section
variable {env : List (Option SV)} {mu : List MO}
theorem th7 (hf : flatMs mu = true) : dLam F_w_told_k30 l_law_k30_7 ⟨env, mu⟩ = .ok (.tup [.str "spread", .non]) ⟨env, mu⟩ := by
  have e := e_middle (D := 1) (B := 1) (pp_rep 40) (.inl rfl) (by simp) (by simp) (by decide) (by decide) (by decide) (by decide) (fun p hp => by
    rw [List.eq_of_mem_replicate hp]
    exact ⟨Zd.int (by decide), Zd.int (by decide)⟩) mu hf
  rw [if_pos (slp_rep _ 40)] at e
  rw [told30]
  exact told_exn (c := "NoSpread") (ns := []) (ys := []) (s' := ⟨capt env, mu⟩) (by
    have q : ∀ st, gMul (.lst [.tup [.int 1, .int 1]]) (.int 40) st = .ok (.lst (List.replicate 40 (.tup [.int 1, .int 1]))) st := fun st => rfl
    simp [l_law_k30_7, q, e, -gMul, -List.replicate_succ, -List.reduceReplicate]) (by decide +kernel) (word_spread mu)
end
theorem law_k30 (ns : List Int) (hn : ns.length ≤ 63) : ∃ mu', F_law_k30 [.frz (ns.map .int)] [] = .ok (.bl true) mu' := by
  have h : W (F_law_k30 [.frz (ns.map .int)] []) (fun v _ => v = .bl true) := by
    unfold F_law_k30 d_law_k30
    simp [W_runBody]
    refine ⟨⟨by omega, by omega⟩, ?_⟩
    refine turnsN (by omega) (fun r => ∃ o4 o5, r = [none, none, o4, o5, none] ∧ noOwn o4 ∧ noOwn o5) ⟨none, none, rfl, trivial, trivial⟩ rfl ?_ trivial ?_
    · rintro i rest mu hi ⟨o4, o5, rfl, n4, n5⟩ hf
      unfold b_law_k30_2
      simp
      refine w_source (by omega) hf fun m1 h1 => ?_
      simp
      refine W_forL (I := fun xs s => ∃ o5 m k, noOwn o5 ∧ Src m mu.length k ∧ k + 200 * xs.length ≤ 4000 ∧ s = ⟨[some (.val (.frz (ns.map .int))), some (.val (.int (i : Int))), none, none, some (.val (.ptr mu.length)), o5, none], m⟩) ⟨o5, m1, _, n5, h1, by simp [rangeP]; omega, rfl⟩ ?_ ?_
      · rintro x xs s ⟨o5, m, k, _, hS, hk, rfl⟩
        simp only [List.length_cons] at hk
        unfold b_law_k30_1
        simp
        refine w_right30 hS (by omega) fun mu' h' => ?_
        simp
        refine w_moved30 h' (by omega) fun mu2 h2 => ?_
        simp
        exact ⟨some (.val x), trivial, mu2, k + 100 + 100, h2, by omega, rfl, rfl⟩
      · rintro s ⟨o5, m, k, n5, hS, hk, rfl⟩
        exact ⟨rfl, _, m, ⟨some (.val (.ptr mu.length)), _, rfl, trivial, n5⟩, hS.flat, rfl⟩
    · rintro o1 rest mu n1 ⟨o4, o5, rfl, n4, n5⟩ hf
      have er : rangeP 0 40 = (List.range 40).map fun (x : Nat) => .int (x : Int) := rfl
      have ec := comp_eq (tg := gN 6) (te := e_law_k30_3) (vs := [6]) (s := ⟨[some (.val (.frz (ns.map .int))), o1, none, none, o4, o5, none], mu⟩) (List.range 40) (fun (x : Nat) => .int (x : Int)) (fun (x : Nat) => .tup [.int (x : Int), .int ((x : Int) * (x : Int))]) (by decide) (fun x hx => by
        have hx5 : x < 40 := List.mem_range.mp hx
        have hb : ib (x : Int) + ib (x : Int) ≤ 1000000 := by
          have := ib_le (i := (x : Int)) (b := 10) (by omega)
          omega
        simp [e_law_k30_3, hb, wipeE])
      have ec2 : compL (gN 6) dYes e_law_k30_3 [6] ((List.range 40).map fun (x : Nat) => PV.int (x : Int)) [] ⟨[some (.val (.frz (ns.map .int))), o1, none, none, o4, o5, none], mu⟩ = .ok sqt30 ⟨[some (.val (.frz (ns.map .int))), o1, none, none, o4, o5, none], mu⟩ := ec
      simp [er, ec2, wipeE, -List.map_map]
      rw [th4 rfl hf]
      have hf2 : flatMs (mu ++ [lnO 39 (mh sq30)]) = true := by
        unfold flatMs at hf ⊢
        rw [List.all_append, hf]
        rfl
      generalize mu ++ [lnO 39 (mh sq30)] = mu2 at hf2
      simp [-gEq]
      rw [th5 rfl]
      simp [th6, -gEq]
      rw [th7 hf2]
      have q4 : ∀ st, gEq false (.lst [.lst [.tup [.int 39, .int 1]], .tup [.str "many", .int 40], .tup [.str "many", .int 40], .tup [.str "spread", .non]]) (.lst [.lst [.tup [.int 39, .int 1]], .tup [.str "many", .int 40], .tup [.str "many", .int 40], .tup [.str "spread", .non]]) st = .ok (.bl true) st := fun st => gEq_self false (by decide +kernel) st
      simp [frozS, froz1, q4, -gEq]
  obtain ⟨v, mu', e, rfl⟩ := h.out
  exact ⟨mu', e⟩
end PX
open PySem PySem.W PySem.Calls PyProof.Rows
theorem PySem.Challenge.cw_exactstats_k30_middle_lines_holds : PySem.Challenge.rw_exactstats_k30_middle_lines.Holds := by
  w_on; o_law
  refine L3.head_cut (r := OpenLaw.row PySem.Challenge.rw_exactstats_k30_middle_lines) (q := view (OpenLaw.row PySem.Challenge.rw_exactstats_k30_middle_lines).prog [76]) (H := Gk30.hk) (loose := Gk30.loose) (d := HandSHeadRun.topDef (OpenLaw.row PySem.Challenge.rw_exactstats_k30_middle_lines).prog 76) (kwd := [])
    (by kernel_rfl) (fun s => by kernel_rfl) Gk30.S Gk30.run Gk30.k1 Gk30.k2 Gk30.k3 (by kernel_rfl) (by kernel_rfl) (by kernel_rfl) (by rfl) (by first | assumption | decide +kernel) (by decide +kernel) ⟨rfl, rfl, rfl, rfl, rfl, by decide +kernel⟩ ?hw ?hc
  case hw => w_witness2
  case hc =>
    refine L3.walkGT (names := Gk30.mkrs) (l := PySem.Challenge.rw_exactstats_k30_middle_lines) (n := 63) (k := 12) (x := "_law_script") (CX := L2.CX0) rfl (by decide) (by kernel_rfl) ⟨rfl, by decide, by decide⟩ ?F (fun _ _ _ _ z => z)
    intro w mg fa h Y G hmg0
    obtain ⟨K, KX, c, T⟩ := Y
    have hmg : mg ("law" : PySem.Str) = some (.ref fa) := by
      have e : (HandSHeadRun.topDef (OpenLaw.row PySem.Challenge.rw_exactstats_k30_middle_lines).prog 76).name = ("law" : PySem.Str) := by kernel_rfl
      rw [← e]
      exact hmg0
    obtain ⟨hl, fd, hb, hF⟩ := Gk30.facts (P := (PySem.Challenge.rw_exactstats_k30_middle_lines).prog) (w := w) KX G c T
    have ee := hmg.symm.trans hl
    cases ee
    exact ⟨K, fd, (fun vs H Q _ => L3.spJ K (He.ga K "Ratio") 1 LD.F_law_k30 vs H Q fun _ _ _ => False), KX, T, hb, fun H a ns hn hT hS => L3.law_sp (n := 63) (fun ns h => PX.law_k30 ns h) H a ns hn (by rw [T.tk]; exact hT) hS, fun base _ _ tb => L3.FnG.mono (L3.calm_of (hF base tb)) (by decide)⟩
