import PyProof.Rows.All
import Wide.All
import OpenK.AllK
import Wide.FinOn
import HandS.Head0
import HandS.Head1
import HandS.Head2
import HandS.ForMost
import HandS.ForExc
import HandS.Wide
import HandS.CallSlots
import HandS.IsInst
import HandS.Style
import HandS.TupAny
import HandS.EndBits
import HandS.RaiseMore
import HandS.Conv
import HandS.More
import PyProof.ReprRoads
import HandS.SortInts
import HandS.SortRule
import KE.KMinKey
import HandS.SortKw
import HandS.TryMany
import HandS.ExcIs
import HandS.HeadHook1
import PyProof.ReprLen
import HandS.SortOrd
import KE.KDictSum
import HandS.DictTup
import KE.KDictWalk
import KE.KDictCopyH
import HandS.TupMul
import HandS.Deep
import HandS.TupLen
import KE.GoesEnum
import PySem.Challenge.RW_restlines_k04_nets_refused
set_option Elab.async false
set_option linter.all false
set_option maxRecDepth 100000
set_option maxHeartbeats 4000000
namespace L2
end L2
namespace Look
end Look
namespace Turn
end Turn
namespace Wide
end Wide
namespace Dt.Pc
open PySem PySem.W PySem.Calls PyProof.Rows HandSHeadRun
def frN {α : Type} (n : Nat) (k : Nat → α) : α := match n with
  | 0 => k 0
  | m + 1 => k (m + 1)
theorem frN_eq {α : Type} (n : Nat) (k : Nat → α) : frN n k = k n := by cases n <;> rfl
def frB {α : Type} : BT → (BT → α) → α
  | .nil, k => k .nil
  | .node v l r, k => match v with
    | ⟨c, d, x, s⟩ => frB l fun l => frB r fun r => k (.node ⟨c, d, x, s⟩ l r)
theorem frB_eq {α : Type} : ∀ (t : BT) (k : BT → α), frB t k = k t
  | .nil, k => rfl
  | .node ⟨c, d, x, s⟩ l r, k => by
    show frB l (fun l => frB r fun r => k (.node ⟨c, d, x, s⟩ l r)) = _
    rw [frB_eq l, frB_eq r]
def frT {α : Type} (s : SharedT) (k : SharedT → α) : α := match s with
  | ⟨T, n, life, gens, drawn, toks, os⟩ => frB T fun T => frN n fun n => frN toks fun toks => k ⟨T, n, life, gens, drawn, toks, os⟩
theorem frT_eq {α : Type} (s : SharedT) (k : SharedT → α) : frT s k = k s := by
  obtain ⟨T, n, life, gens, drawn, toks, os⟩ := s
  show frB T (fun T => frN n fun n => frN toks fun toks => k ⟨T, n, life, gens, drawn, toks, os⟩) = _
  rw [frB_eq, frN_eq, frN_eq]
section
variable (st : SharedT → Thread → Option (SharedT × Thread)) (n0 : Nat) (ann : Option Value)
def segF : Nat → SharedT → Thread → Option (Flow × SharedT × Code × Pos)
  | 0, _, _ => none
  | m + 1, s, t => match endAt 1 t with
    | some f => frT s fun s => some (f, s, t.code, t.pos)
    | none => match stepOk n0 ann t with
      | false => none
      | true => match st s t with
        | some (s', t') => frN s'.n fun n => frN s'.toks fun k => segF m ⟨s'.tree, n, s'.life, s'.gens, s'.drawn, k, s'.os⟩ t'
        | none => none
def goK : Nat → SharedT → Thread → Option (SharedT × Thread)
  | 0, s, t => frT s fun s => some (s, t)
  | m + 1, s, t => match through t with
    | true => none
    | false => match stepOk n0 ann t with
      | false => none
      | true => match st s t with
        | some (s', t') => frN s'.n fun n => frN s'.toks fun k => goK m ⟨s'.tree, n, s'.life, s'.gens, s'.drawn, k, s'.os⟩ t'
        | none => none
def goE : Nat → SharedT → Thread → Option SharedT
  | 0, _, _ => none
  | m + 1, s, t => match through t with
    | true => frT s some
    | false => match stepOk n0 ann t with
      | false => none
      | true => match st s t with
        | some (s', t') => frN s'.n fun n => frN s'.toks fun k => goE m ⟨s'.tree, n, s'.life, s'.gens, s'.drawn, k, s'.os⟩ t'
        | none => none
end
theorem fr2 {α : Type} (s : SharedT) (k : SharedT → α) : (frN s.n fun n => frN s.toks fun q => k ⟨s.tree, n, s.life, s.gens, s.drawn, q, s.os⟩) = k s := by
  rw [frN_eq, frN_eq]
theorem segF_ok {tb : String → Option Builtin} {p : Program} {w : World} {n0 : Nat} {ann : Option Value} : ∀ {m : Nat} {s s' : SharedT} {t : Thread} {f : Flow} {c : Code} {q : Pos},
    segF (stepT (denote tb) p w) n0 ann m s t = some (f, s', c, q) → segRun tb p w n0 ann 1 m s.abs t = some (f, s'.abs, c, q)
  | 0, _, _, _, _, _, _, h => by cases h
  | m + 1, s, s', t, f, c, q, h => by
    unfold segF at h
    unfold segRun
    cases he : endAt 1 t with
    | some g =>
      rw [he] at h
      have h1 : (frT s fun s => some (g, s, t.code, t.pos)) = some (f, s', c, q) := h
      rw [frT_eq] at h1
      cases h1
      rfl
    | none =>
      rw [he] at h
      cases hk : stepOk n0 ann t with
      | false => rw [hk] at h; cases h
      | true =>
        rw [hk] at h
        cases hs : stepT (denote tb) p w s t with
        | none => rw [hs] at h; cases h
        | some r =>
          obtain ⟨s2, t2⟩ := r
          rw [hs] at h
          have h1 : (frN s2.n fun n => frN s2.toks fun k => segF (stepT (denote tb) p w) n0 ann m ⟨s2.tree, n, s2.life, s2.gens, s2.drawn, k, s2.os⟩ t2) = some (f, s', c, q) := h
          rw [fr2 s2 (fun s => segF (stepT (denote tb) p w) n0 ann m s t2)] at h1
          show (match step (denote tb) p w s.abs t with
            | .go s' t' => segRun tb p w n0 ann 1 m s' t'
            | .halt _ _ => none) = _
          rw [stepT_spec hs]
          exact segF_ok h1
theorem goK_ok {tb : String → Option Builtin} {p : Program} {w : World} {n0 : Nat} {ann : Option Value} : ∀ {m : Nat} {s s' : SharedT} {t t' : Thread},
    goK (stepT (denote tb) p w) n0 ann m s t = some (s', t') → topGo tb p w n0 ann m s.abs t = some (s'.abs, t')
  | 0, s, s', t, t', h => by
    have h1 : (frT s fun s => some (s, t)) = some (s', t') := h
    rw [frT_eq] at h1
    cases h1
    rfl
  | m + 1, s, s', t, t', h => by
    unfold goK at h
    unfold topGo
    cases he : through t with
    | true => rw [he] at h; cases h
    | false =>
      rw [he] at h
      cases hk : stepOk n0 ann t with
      | false => rw [hk] at h; cases h
      | true =>
        rw [hk] at h
        cases hs : stepT (denote tb) p w s t with
        | none => rw [hs] at h; cases h
        | some r =>
          obtain ⟨s2, t2⟩ := r
          rw [hs] at h
          have h1 : (frN s2.n fun n => frN s2.toks fun k => goK (stepT (denote tb) p w) n0 ann m ⟨s2.tree, n, s2.life, s2.gens, s2.drawn, k, s2.os⟩ t2) = some (s', t') := h
          rw [fr2 s2 (fun s => goK (stepT (denote tb) p w) n0 ann m s t2)] at h1
          show (match step (denote tb) p w s.abs t with
            | .go s' t' => topGo tb p w n0 ann m s' t'
            | .halt _ _ => none) = _
          rw [stepT_spec hs]
          exact goK_ok h1
theorem goE_ok {tb : String → Option Builtin} {p : Program} {w : World} {n0 : Nat} {ann : Option Value} : ∀ {m : Nat} {s s' : SharedT} {t : Thread},
    goE (stepT (denote tb) p w) n0 ann m s t = some s' → topRun tb p w n0 ann m s.abs t = some s'.abs
  | 0, s, s', t, h => by cases h
  | m + 1, s, s', t, h => by
    unfold goE at h
    unfold topRun
    cases he : through t with
    | true =>
      rw [he] at h
      have h1 : frT s some = some s' := h
      rw [frT_eq] at h1
      cases h1
      rfl
    | false =>
      rw [he] at h
      cases hk : stepOk n0 ann t with
      | false => rw [hk] at h; cases h
      | true =>
        rw [hk] at h
        cases hs : stepT (denote tb) p w s t with
        | none => rw [hs] at h; cases h
        | some r =>
          obtain ⟨s2, t2⟩ := r
          rw [hs] at h
          have h1 : (frN s2.n fun n => frN s2.toks fun k => goE (stepT (denote tb) p w) n0 ann m ⟨s2.tree, n, s2.life, s2.gens, s2.drawn, k, s2.os⟩ t2) = some s' := h
          rw [fr2 s2 (fun s => goE (stepT (denote tb) p w) n0 ann m s t2)] at h1
          show (match step (denote tb) p w s.abs t with
            | .go s' t' => topRun tb p w n0 ann m s' t'
            | .halt _ _ => none) = _
          rw [stepT_spec hs]
          exact goE_ok h1
abbrev envT (p : Program) : Env := { scope := p.main.scope, locals := mainNs, globals := mainNs, cells := [], code := .ref 13, frame := some 14 }
abbrev codeT (p : Program) : Code := .body (behindTheImports p) (envT p)
abbrev B0 : List Frame := [topFrame default]
def restT (p : Program) (a : Nat) (q : Pos) : Thread := restOf ((behindTheImports p).drop a) (envT p) (codeT p) q B0
def pieceT (p : Program) (a m : Nat) (q : Pos) : Thread := piecesOf (((behindTheImports p).drop a).take m) (envT p) (codeT p) q B0
def blockT (p : Program) : Thread := blockOf (behindTheImports p) (envT p) (codeT p) default B0
def texts {α : Type} : List Str → Nat → List Value → (List Value → Nat → α) → α
  | [], k, out, K => K out.reverse k
  | x :: r, k, out, K => frN (k + 1) fun k1 => texts r k1 (.str x k :: out) K
def tupO (xs : List Value) : Obj := { cls := .type "tuple", data := .seq xs.toArray }
def fldO (cl : Value) (xs : List Value) : Obj := { cls := cl, data := .fields xs.toArray }
section
variable (file : Str) (text modv : Value) (hash : Str → Int)
def defTail {α : Type} (name : Str) (args : Arguments) (body : List Stmt) (scope : Scope) (pos : Pos) (n0 k0 : Nat) (a b : Value) (T : BT) (n k : Nat) (es : List DictEntry) (cs : List Value) (K : BT → Nat → Nat → List DictEntry → List Value → α) : α :=
  frN (n + 1) fun n1 => frN (n + 2) fun n2 => frN (n + 3) fun n3 => frN (k + 1) fun k1 => frN (k + 2) fun k2 => frN (k + 3) fun k3 =>
    K (((T.ins n { cls := .none, data := .func { name, qualname := name, params := args, body := .stmts body, scope, globals := builtinsNs, closure := [], defaults := .none, kwdefaults := .none } }).ins n1
      (fldO (.type "code") [.str name k0, .str name (k0 + 1), .str file (k0 + 2), rawInt pos.line, rawInt (args.posonlyargs.length + args.args.length : Nat), rawInt args.posonlyargs.length, rawInt args.kwonlyargs.length, rawInt (3 : Nat),
        .ref n0, .bool true, text, .ref (n0 + 1), .none, a, b, .ref n, rawInt k, rawInt pos.line, .str file k1])).ins n2
      { cls := .type "function", data := .func { name, qualname := name, params := args, body := .stmts body, scope, globals := mainNs, closure := [], defaults := .none, kwdefaults := .none, pyModule := modv, code := .ref n1 } })
      n3 k3 (⟨hash name, .str name k2, .ref n2⟩ :: es) (.ref n1 :: rawInt pos.col :: rawInt pos.line :: cs)
def goDefs {α : Type} : List Bool → List Stmt → BT → Nat → Nat → List DictEntry → List Value → (BT → Nat → Nat → List DictEntry → List Value → α) → α
  | bl :: bs, .FunctionDef name args body _ _ _ scope _ _ pos :: r, T, n, k, es, cs, K =>
    frN (n + 2) fun n2 => frN (k + 3) fun k3 =>
      match bl with
      | true => defTail file text modv hash name args body scope pos n k .none .none ((T.ins n (tupO [])).ins (n + 1) (fldO .none [])) n2 k3 es cs fun T n k es cs => goDefs bs r T n k es cs K
      | false => texts ((scope.names.filter fun (x, d) => d == .local || (d == .cell && (args.posonlyargs ++ args.args ++ args.kwonlyargs ++ args.vararg.toList ++ args.kwarg.toList).any fun q => q.arg == x)).map (·.1)) k3 [] fun l1 k4 =>
          texts ((scope.names.filter (·.2 == .cell)).map (·.1)) k4 [] fun l2 k5 => frN (n + 3) fun n3 => frN (n + 4) fun n4 =>
            defTail file text modv hash name args body scope pos n k (.ref n2) (.ref n3) ((((T.ins n (tupO [])).ins (n + 1) (fldO .none [])).ins n2 (tupO l1)).ins n3 (tupO l2)) n4 k5 es cs fun T n k es cs => goDefs bs r T n k es cs K
  | _, _, T, n, k, es, cs, K => K T n k es cs
def goRest {α : Type} (st : Stmt) (T : BT) (n k : Nat) (K : BT → Nat → Nat → List DictEntry → List Value → α) : α := match st with
  | .ClassDef name _ _ _ _ _ _ _ _ _ pos =>
    K (((((((((((((T.ins n (tupO [.type "ValueError"])).ins (n + 1) (fldO (.type "builtin_function_or_method") [.builtin "type.__prepare__", .type "type"])).ins (n + 2)
      { cls := .type "dict", data := .dict #[⟨hash "__module__", .str "__module__" (k + 7), modv⟩, ⟨hash "__qualname__", .str "__qualname__" (k + 9), .str name (k + 8)⟩, ⟨hash "__firstlineno__", .str "__firstlineno__" (k + 11), .int (pos.line : Nat) (k + 10)⟩, ⟨hash "__static_attributes__", .str "__static_attributes__" (k + 12), .ref (n + 7)⟩] 4 }).ins (n + 3)
      (tupO [])).ins (n + 4) (fldO .none [])).ins (n + 5)
      (fldO (.type "code") [.str name (k + 2), .str name (k + 3), .str file (k + 4), rawInt pos.line, rawInt (0 : Nat), rawInt (0 : Nat), rawInt (0 : Nat), rawInt (0 : Nat), .ref (n + 3), .bool false, text, .ref (n + 4), .none, .none, .none, .none, rawInt (k + 5 : Nat), rawInt pos.line, .str file (k + 6)])).ins (n + 6)
      { cls := .type "frame", slots := #[some (.ref (n + 5)), some (.ref mainNs), some (.ref (n + 2)), none, some modv, none, some (.ref builtinsNs)] }).ins (n + 7)
      (tupO [])).ins (n + 8)
      { cls := .type "dict", data := .dict #[⟨hash "__module__", .str "__module__" (k + 7), modv⟩, ⟨hash "__firstlineno__", .str "__firstlineno__" (k + 11), .int (pos.line : Nat) (k + 10)⟩, ⟨hash "__static_attributes__", .str "__static_attributes__" (k + 12), .ref (n + 7)⟩, ⟨hash "__weakref__", .str "__weakref__" (k + 14), .ref (n + 10)⟩, ⟨hash "__doc__", .str "__doc__" (k + 15), .none⟩] 3 }).ins (n + 9)
      { cls := .type "type", data := .cls { name, bases := [.type "ValueError"], mro := [.ref (n + 9), .type "ValueError", .type "Exception", .type "BaseException", .type "object"], ns := n + 8, qualname := name }, slots := #[some (.ref n), none, some (.str name k), some (.str name (k + 8)), some (.builtin "ValueError.__new__"), some (.bool true)] }).ins (n + 10)
      (fldO (.type "getset_descriptor") [.str "__weakref__" (k + 13), .ref (n + 9), .builtin "ExceptionGroup.__weakref__", .none])).ins (n + 11)
      (fldO (.type "super") [.ref (n + 9), .ref (n + 9), .ref (n + 9)])).ins (n + 12) (fldO (.type "builtin_function_or_method") [.builtin "object.__init_subclass__", .ref (n + 9)]))
      (n + 13) (k + 18) [⟨hash name, .str name (k + 17), .ref (n + 9)⟩] [.ref (n + 5), rawInt pos.col, rawInt pos.line]
  | _ => K T n k [] []
def consts {α : Type} : List Expr → Nat → List Value → (List Value → Nat → α) → α
  | .Constant (.str x) _ _ :: r, k, out, K => frN (k + 1) fun k1 => consts r k1 (.str x k :: out) K
  | .Constant (.int i) _ _ :: r, k, out, K => frN (k + 1) fun k1 => consts r k1 (.int i k :: out) K
  | _, k, out, K => K out.reverse k
def goPuts {α : Type} : Nat → List Stmt → BT → Nat → Nat → List DictEntry → (BT → Nat → Nat → List DictEntry → α) → α
  | m + 1, .Assign [.Name x _] e _ :: r, T, n, k, es, K => match e with
    | .Constant (.str y) _ _ => frN (k + 1) fun k1 => frN (k + 2) fun k2 => goPuts m r T n k2 (⟨hash x, .str x k1, .str y k⟩ :: es) K
    | .Constant (.int i) _ _ => frN (k + 1) fun k1 => frN (k + 2) fun k2 => goPuts m r T n k2 (⟨hash x, .str x k1, .int i k⟩ :: es) K
    | .UnaryOp _ (.Constant (.int i) _ _) _ => frN (k + 1) fun k1 => frN (k + 2) fun k2 => frN (k + 3) fun k3 => goPuts m r T n k3 (⟨hash x, .str x k2, .int (-i) k1⟩ :: es) K
    | .Tuple xs _ _ => consts xs k [] fun vs k1 => frN (k1 + 1) fun k2 => frN (n + 1) fun n1 => goPuts m r (T.ins n (tupO vs)) n1 k2 (⟨hash x, .str x k1, .ref n⟩ :: es) K
    | _ => K T n k es
  | _, _, T, n, k, es, K => K T n k es
def goCls {α : Type} (r : Addr) (st : Stmt) (T : BT) (n k : Nat) (K : BT → Nat → Nat → List DictEntry → List Value → α) : α := match st with
  | .ClassDef name _ _ _ _ _ _ _ _ _ pos =>
    let at_ (i : Nat) : Nat := n + i
    let tk (i : Nat) : Nat := k + i
    let mro : List Value := match T.get r with
      | some ⟨_, _, .cls c, _⟩ => c.mro
      | _ => []
    K (((((((((((((T.set r (fun o => o.mapCls fun x => { x with subclasses := x.subclasses ++ [.ref (n + 9)] })).ins n (tupO [.ref r])).ins (n + 1) (fldO (.type "builtin_function_or_method") [.builtin "type.__prepare__", .type "type"])).ins (n + 2)
      { cls := .type "dict", data := .dict #[⟨hash "__module__", .str "__module__" (k + 7), modv⟩, ⟨hash "__qualname__", .str "__qualname__" (k + 9), .str name (k + 8)⟩, ⟨hash "__firstlineno__", .str "__firstlineno__" (k + 11), .int (pos.line : Nat) (k + 10)⟩, ⟨hash "__static_attributes__", .str "__static_attributes__" (k + 12), .ref (n + 7)⟩] 4 }).ins (n + 3)
      (tupO [])).ins (n + 4) (fldO .none [])).ins (n + 5)
      (fldO (.type "code") [.str name (k + 2), .str name (k + 3), .str file (k + 4), rawInt pos.line, rawInt (0 : Nat), rawInt (0 : Nat), rawInt (0 : Nat), rawInt (0 : Nat), .ref (n + 3), .bool false, text, .ref (n + 4), .none, .none, .none, .none, rawInt (k + 5 : Nat), rawInt pos.line, .str file (k + 6)])).ins (n + 6)
      { cls := .type "frame", slots := #[some (.ref (n + 5)), some (.ref mainNs), some (.ref (n + 2)), none, some modv, none, some (.ref builtinsNs)] }).ins (n + 7)
      (tupO [])).ins (n + 8)
      { cls := .type "dict", data := .dict #[⟨hash "__module__", .str "__module__" (k + 7), modv⟩, ⟨hash "__firstlineno__", .str "__firstlineno__" (k + 11), .int (pos.line : Nat) (k + 10)⟩, ⟨hash "__static_attributes__", .str "__static_attributes__" (k + 12), .ref (n + 7)⟩, ⟨hash "__doc__", .str "__doc__" (k + 13), .none⟩] 2 }).ins (n + 9)
      { cls := .type "type", data := .cls { name, bases := [.ref r], mro := .ref (n + 9) :: mro, ns := n + 8, qualname := name }, slots := #[some (.ref n), none, some (.str name k), some (.str name (k + 8)), some (.builtin "ValueError.__new__"), some (.bool true)] }).ins (n + 10)
      (fldO (.type "super") [.ref (n + 9), .ref (n + 9), .ref (n + 9)])).ins (n + 11) (fldO (.type "builtin_function_or_method") [.builtin "object.__init_subclass__", .ref (n + 9)]))
      (n + 12) (k + 16) [⟨hash name, .str name (k + 15), .ref (n + 9)⟩] [.ref (n + 5), rawInt pos.col, rawInt pos.line]
  | _ => K T n k [] []
end
inductive Ch where
  | defs (bs : List Bool)
  | cls (r : Nat)
  | rest
  | puts (m : Nat)
  | modl
  | run (m : Nat)
def Ch.count : Ch → Nat
  | .defs bs => bs.length
  | .cls _ => 1
  | .rest => 1
  | .puts m => m
  | .modl => 1
  | .run m => m
def hashT (w : World) (x : Str) : Int := if x.cps.isEmpty then 0 else reduceHash (w.params.strHash x.cps)
def grown (es : List DictEntry) (cs : List Value) (T : BT) : BT :=
  (T.set mainNs fun o => match o with
    | ⟨c, d, .dict xs e, sl⟩ => ⟨c, d, .dict (xs.toList ++ es.reverse).toArray (e + es.length), sl⟩
    | o => o).set 12 fun o => match o with
    | ⟨c, d, .fields xs, sl⟩ => ⟨c, d, .fields (xs.toList ++ cs.reverse).toArray, sl⟩
    | o => o
def renamed (v : Value) : List DictEntry → List DictEntry
  | [] => []
  | e :: r => match e.key.isStr "__name__" with
    | true => { e with val := v } :: r
    | false => e :: renamed v r
section
variable (st : SharedT → Thread → Option (SharedT × Thread)) (n0 : Nat) (ann : Option Value) (p : Program) (w : World)
def nextS (a : Nat) : Ch → SharedT → SharedT
  | .run m, s => match segF st n0 ann 3000 s (pieceT p a m default) with
    | some (_, s', _, _) => s'
    | none => s
  | c, ⟨T, n, life, gens, drawn, k, os⟩ =>
    let (file, text) : Str × Value := match T.get 13 with
      | some ⟨_, _, .fields xs, _⟩ => (match xs.getD 18 .none with | .str f _ => f | _ => "", xs.getD 10 .none)
      | _ => ("", .none)
    let modv : Value := match T.get mainNs with
      | some ⟨_, _, .dict es _, _⟩ => (match es.toList.find? fun e => e.key.isStr "__name__" with | some e => e.val | none => .none)
      | _ => .none
    match c with
    | .defs bs => goDefs file text modv (hashT w) bs ((behindTheImports p).drop a) T n k [] [] fun T n k es cs => ⟨grown es cs T, n, life, gens, drawn, k, os⟩
    | .cls r => (match (behindTheImports p).drop a with
      | d :: _ => goCls file text modv (hashT w) r d T n k fun T n k es cs => ⟨grown es cs T, n, life, gens, drawn, k, os⟩
      | [] => ⟨T, n, life, gens, drawn, k, os⟩)
    | .rest => (match (behindTheImports p).drop a with
      | d :: _ => goRest file text modv (hashT w) d T n k fun T n k es cs => ⟨grown es cs T, n, life, gens, drawn, k, os⟩
      | [] => ⟨T, n, life, gens, drawn, k, os⟩)
    | .puts m => goPuts (hashT w) m ((behindTheImports p).drop a) T n k [] fun T n k es => ⟨grown es [] T, n, life, gens, drawn, k, os⟩
    | .modl => (match (behindTheImports p).drop a with
      | .Assign _ (.Constant (.str y) _ _) _ :: _ => ⟨T.set mainNs (fun o => match o with
          | ⟨c, d, .dict xs e, sl⟩ => ⟨c, d, .dict (renamed (.str y k) xs.toList).toArray e, sl⟩
          | o => o), n, life, gens, drawn, k + 2, os⟩
      | _ => ⟨T, n, life, gens, drawn, k, os⟩)
    | .run _ => ⟨T, n, life, gens, drawn, k, os⟩
def midS : List Ch → Nat → SharedT → SharedT
  | [], _, s => s
  | c :: r, a, s => frT (nextS st n0 ann p w a c s) fun s => midS r (a + c.count) s
end
end Dt.Pc
namespace Dt.Pc
open PySem PySem.W PySem.Calls PyProof.Rows HandSHeadRun
noncomputable def boot0 (w : World) (os : OsState) : SharedT := match putAll (boot_heap w.params).objs.toList .nil 0 with
  | some r => bootT w os r
  | none => bootT w os (.nil, 0)
section
variable (p : Program) (w : World)
noncomputable abbrev stQ : SharedT → Thread → Option (SharedT × Thread) := stepQ (denQ tabQ) p w
noncomputable def m0 (os : OsState) : SharedT := match goK (stQ p w) 11 (bootAnn w) 12 (boot0 w os) (topStub p) with
  | some (s, _) => s
  | none => boot0 w os
noncomputable def m1 (os : OsState) : SharedT := match segF (stQ p w) 11 (bootAnn w) 100 (m0 p w os) (blockT p) with
  | some (_, s, _, _) => s
  | none => m0 p w os
noncomputable def mE (a : Nat) (q : Pos) (s : SharedT) : SharedT := match goE (stQ p w) 11 (bootAnn w) 300 s (restT p a q) with
  | some s => s
  | none => s
noncomputable abbrev mid (chs : List Ch) (a : Nat) (s : SharedT) : SharedT := midS (stQ p w) 11 (bootAnn w) p w chs a s
end
end Dt.Pc
namespace Dt
open PySem PySem.Spec PyProof.Rows L2
abbrev St := L2.St
inductive D where
  | non
  | bl (b : Bool)
  | int (i : Int)
  | str (x : Str)
  | lst (xs : List D)
  | tup (xs : List D)
  | scr (ns : List Int)
  | dic (ks : List Int) (vs : List D)
  /-- a dict whose keys are tuples of ints and texts -/
  | dct (ks : List (List L2.Key)) (vs : List D)
  /-- some object, by its address -/
  | obj (a : Addr)
  /-- a tuple of ints and texts that was made by the program, a key -/
  | key (ks : List L2.Key)
def kPy : L2.Key → PyData
  | .inl i => .int i
  | .inr x => .str x
mutual
def D.py : D → PyData
  | .non => .none
  | .bl b => .bool b
  | .int i => .int i
  | .str x => .str x
  | .lst xs => .list (D.pys xs)
  | .tup xs => .tuple (D.pys xs)
  | .scr ns => .list (ns.map PyData.int)
  | .dic _ _ => .dict []
  | .dct _ _ => .dict []
  | .obj _ => .dict []
  | .key ks => .tuple (ks.map kPy)
def D.pys : List D → List PyData
  | [] => []
  | x :: xs => D.py x :: D.pys xs
end
def Ex (H H' : Hp) : Prop := ∀ a o, H a = some o → H' a = some o
theorem Ex.refl (H : Hp) : Ex H H := fun _ _ h => h
theorem Ex.trans {H H1 H2 : Hp} (a : Ex H H1) (b : Ex H1 H2) : Ex H H2 := fun x o h => b x o (a x o h)
theorem Ex.new {H : Hp} {p : Addr} {o : HO} (h : H p = none) : Ex H (upd H p o) := fun a u e => by
  rw [upd_ne (ne_of_none e h)]
  exact e
theorem Ex.nn {H H' : Hp} {p : Addr} (e : Ex H H') (h : H' p = none) : H p = none := by
  cases h1 : H p with
  | none => rfl
  | some o => rw [e p o h1] at h; cases h
theorem Ex.both {B H : Hp} {p : Addr} {o : HO} (e : Ex B H) : Ex (upd B p o) (upd H p o) := fun a u h => by
  by_cases q : a = p
  · subst q; rw [upd_same] at h ⊢; exact h
  · rw [upd_ne q] at h ⊢; exact e a u h
theorem Ex.right {B H : Hp} {p : Addr} {o : HO} (e : Ex B H) (h : B p = none) : Ex B (upd H p o) := fun a u q => by
  rw [upd_ne (ne_of_none q h)]; exact e a u q
theorem upd_some {H : Hp} {a p : Addr} {o : HO} (h : H a ≠ none) : upd H p o a ≠ none := by
  by_cases q : a = p
  · subst q; rw [upd_same]; simp
  · rw [upd_ne q]; exact h
theorem Ex.rd {H H' : Hp} {a : Addr} {u : HO} (e : Ex H H') (h : Rd H a u) : Rd H' a u := by
  rcases h with h | ⟨o, h⟩
  · exact Or.inl (e a _ h)
  · exact Or.inr ⟨o, e a _ h⟩
theorem Ex.sl {K : PySem.W.Frag} {H H' : Hp} {a : Addr} {xs : List V} (e : Ex H H') (h : SqL K H a xs) : SqL K H' a xs := by
  rcases h with h | h
  · exact Or.inl (e.rd h)
  · exact Or.inr h
theorem Ex.st {K : PySem.W.Frag} {H H' : Hp} {a : Addr} {xs : List V} (e : Ex H H') (h : SqT K H a xs) : SqT K H' a xs := by
  rcases h with h | h
  · exact Or.inl (e.rd h)
  · exact Or.inr h
def dkt (ks : List (List L2.Key)) (xs : List V) : List (List L2.Key × V) := List.zipWith (fun k v => (k, v)) ks xs
def dkv (ks : List Int) (xs : List V) : List (L2.Key × V) := List.zipWith (fun k v => (Sum.inl k, v)) ks xs
mutual
inductive Fz (K : PySem.W.Frag) (B : Hp) : V → D → Prop
  | non : Fz K B .non .non
  | bl (b : Bool) : Fz K B (.bl b) (.bl b)
  | int (i : Int) : Fz K B (.int i) (.int i)
  | str (x : Str) : Fz K B (.str x) (.str x)
  | lst {a : Addr} {xs : List V} {ds : List D} : B a = some (.lst xs) → Fzs K B xs ds → Fz K B (.ref a) (.lst ds)
  | tup {a : Addr} {xs : List V} {ds : List D} : SqT K B a xs → Fzs K B xs ds → Fz K B (.ref a) (.tup ds)
  | scr {a : Addr} {ns : List Int} : SqL K B a (ns.map V.int) → Fz K B (.ref a) (.scr ns)
  | dic {a : Addr} {ks : List Int} {xs : List V} {ds : List D} : B a = some (.dK (dkv ks xs)) → ks.length = xs.length → Fzs K B xs ds → Fz K B (.ref a) (.dic ks ds)
  | dct {a : Addr} {ks : List (List L2.Key)} {xs : List V} {ds : List D} : Rd B a (.dT (dkt ks xs)) → ks.length = xs.length → Fzs K B xs ds → Fz K B (.ref a) (.dct ks ds)
  | obj (a : Addr) : Fz K B (.ref a) (.obj a)
  | key {a : Addr} {ks : List L2.Key} : B a = some (.tup (ks.map kV)) → Fz K B (.ref a) (.key ks)
inductive Fzs (K : PySem.W.Frag) (B : Hp) : List V → List D → Prop
  | nil : Fzs K B [] []
  | cons {v : V} {vs : List V} {d : D} {ds : List D} : Fz K B v d → Fzs K B vs ds → Fzs K B (v :: vs) (d :: ds)
end
section
variable {K : PySem.W.Frag} {B B' H : Hp}
mutual
theorem Fz.mono {v : V} {d : D} (e : Ex B B') : Fz K B v d → Fz K B' v d
  | .non => .non
  | .bl b => .bl b
  | .int i => .int i
  | .str x => .str x
  | .lst h hs => .lst (e _ _ h) (Fzs.mono e hs)
  | .tup h hs => .tup (e.st h) (Fzs.mono e hs)
  | .scr h => .scr (e.sl h)
  | .dic h l hs => .dic (e _ _ h) l (Fzs.mono e hs)
  | .dct h l hs => .dct (e.rd h) l (Fzs.mono e hs)
  | .obj a => .obj a
  | .key h => .key (e _ _ h)
theorem Fzs.mono {vs : List V} {ds : List D} (e : Ex B B') : Fzs K B vs ds → Fzs K B' vs ds
  | .nil => .nil
  | .cons h hs => .cons (Fz.mono e h) (Fzs.mono e hs)
end
theorem dp_ints : ∀ ns : List Int, DpAll K H (ns.map V.int) (ns.map PyData.int)
  | [] => .nil
  | n :: ns => .cons (.int n) (dp_ints ns)
theorem dp_keys : ∀ ks : List L2.Key, DpAll K H (ks.map kV) (ks.map kPy)
  | [] => .nil
  | .inl n :: ns => .cons (.int n) (dp_keys ns)
  | .inr n :: ns => .cons (.str n) (dp_keys ns)
mutual

def D.nd : D → Bool
  | .lst xs => D.nds xs
  | .tup xs => D.nds xs
  | .dic _ _ | .dct _ _ | .obj _ => false
  | .non | .bl _ | .int _ | .str _ | .scr _ | .key _ => true
def D.nds : List D → Bool
  | [] => true
  | x :: xs => D.nd x && D.nds xs
end
mutual
theorem D.nd_lay : ∀ {d : D}, d.py.canLay0 = true → d.nd = true
  | .non, _ => by simp [D.nd]
  | .bl _, _ => by simp [D.nd]
  | .int _, _ => by simp [D.nd]
  | .str _, _ => by simp [D.nd]
  | .scr _, _ => by simp [D.nd]
  | .lst xs, h => by
    simp only [D.py, PyData.canLay0] at h
    simp only [D.nd]; exact D.nds_lay h
  | .tup xs, h => by
    simp only [D.py, PyData.canLay0] at h
    simp only [D.nd]; exact D.nds_lay h
  | .dic _ _, h => by simp [D.py, PyData.canLay0] at h
  | .dct _ _, h => by simp [D.py, PyData.canLay0] at h
  | .obj _, h => by simp [D.py, PyData.canLay0] at h
  | .key _, _ => by simp [D.nd]
theorem D.nds_lay : ∀ {ds : List D}, PyData.canLayAll0 (D.pys ds) = true → D.nds ds = true
  | [], _ => by simp [D.nds]
  | x :: xs, h => by
    simp only [D.pys, PyData.canLayAll0, Bool.and_eq_true] at h
    simp only [D.nds, Bool.and_eq_true]
    exact ⟨D.nd_lay h.1, D.nds_lay h.2⟩
end
mutual
theorem D.nd_has : ∀ {d : D}, d.py.hasDict = false → d.nd = true
  | .non, _ => by simp [D.nd]
  | .bl _, _ => by simp [D.nd]
  | .int _, _ => by simp [D.nd]
  | .str _, _ => by simp [D.nd]
  | .scr _, _ => by simp [D.nd]
  | .lst xs, h => by
    simp only [D.py, PyData.hasDict] at h
    simp only [D.nd]; exact D.nds_has h
  | .tup xs, h => by
    simp only [D.py, PyData.hasDict] at h
    simp only [D.nd]; exact D.nds_has h
  | .dic _ _, h => by simp [D.py, PyData.hasDict] at h
  | .dct _ _, h => by simp [D.py, PyData.hasDict] at h
  | .obj _, h => by simp [D.py, PyData.hasDict] at h
  | .key _, _ => by simp [D.nd]
theorem D.nds_has : ∀ {ds : List D}, PyData.hasDictAll (D.pys ds) = false → D.nds ds = true
  | [], _ => by simp [D.nds]
  | x :: xs, h => by
    simp only [D.pys, PyData.hasDictAll, Bool.or_eq_false_iff] at h
    simp only [D.nds, Bool.and_eq_true]
    exact ⟨D.nd_has h.1, D.nds_has h.2⟩
end
mutual
theorem Fz.dp {v : V} {d : D} (e : Ex B H) (n : d.nd = true) : Fz K B v d → Dp K H v d.py
  | .non => by simp only [D.py]; exact .non
  | .bl b => by simp only [D.py]; exact .bl b
  | .int i => by simp only [D.py]; exact .int i
  | .str x => by simp only [D.py]; exact .str x
  | .lst h hs => by simp only [D.py]; exact .lst (.inl (.inl (e _ _ h))) (Fzs.dp e (by simpa only [D.nd] using n) hs)
  | .tup h hs => by simp only [D.py]; exact .tup (e.st h) (Fzs.dp e (by simpa only [D.nd] using n) hs)
  | .scr h => by simp only [D.py]; exact .lst (e.sl h) (dp_ints _)
  | .dic _ _ _ => by simp [D.nd] at n
  | .dct _ _ _ => by simp [D.nd] at n
  | .obj _ => by simp [D.nd] at n
  | .key h => by simp only [D.py]; exact .tup (e.st (.inl (.inl h))) (dp_keys _)
theorem Fzs.dp {vs : List V} {ds : List D} (e : Ex B H) (n : D.nds ds = true) : Fzs K B vs ds → DpAll K H vs (D.pys ds)
  | .nil => by simp only [D.pys]; exact .nil
  | .cons h hs => by
    simp only [D.nds, Bool.and_eq_true] at n
    simp only [D.pys]
    exact .cons (Fz.dp e n.1 h) (Fzs.dp e n.2 hs)
end
theorem Fzs.len : ∀ {vs : List V} {ds : List D}, Fzs K B vs ds → vs.length = ds.length
  | _, _, .nil => rfl
  | _, _, .cons _ hs => by rw [List.length_cons, List.length_cons, Fzs.len hs]
theorem Fzs.get : ∀ {vs : List V} {ds : List D} {i : Nat} {d : D}, Fzs K B vs ds → ds[i]? = some d → ∃ v, vs[i]? = some v ∧ Fz K B v d
  | _, _, _, _, .nil, e => by simp at e
  | _, _, 0, _, .cons h _, e => by simp at e; subst e; exact ⟨_, rfl, h⟩
  | _, _, i + 1, d, .cons _ hs, e => by
    obtain ⟨v, h1, h2⟩ := Fzs.get (i := i) (d := d) hs (by simpa using e)
    exact ⟨v, by simpa using h1, h2⟩
theorem Fzs.getV : ∀ {vs : List V} {ds : List D} {i : Nat} {v : V}, Fzs K B vs ds → vs[i]? = some v → ∃ d, ds[i]? = some d ∧ Fz K B v d
  | _, _, _, _, .nil, e => by simp at e
  | _, _, 0, _, .cons h _, e => by simp at e; subst e; exact ⟨_, rfl, h⟩
  | _, _, i + 1, d, .cons _ hs, e => by
    obtain ⟨v, h1, h2⟩ := Fzs.getV (i := i) (v := d) hs (by simpa using e)
    exact ⟨v, by simpa using h1, h2⟩
theorem Fzs.append : ∀ {vs ws : List V} {ds es : List D}, Fzs K B vs ds → Fzs K B ws es → Fzs K B (vs ++ ws) (ds ++ es)
  | _, _, _, _, .nil, h => h
  | _, _, _, _, .cons a t, h => .cons a (Fzs.append t h)
theorem Fzs.set : ∀ {vs : List V} {ds : List D} {v : V} {d : D} (i : Nat), Fzs K B vs ds → Fz K B v d → Fzs K B (vs.set i v) (ds.set i d)
  | _, _, _, _, _, .nil, _ => .nil
  | _, _, _, _, 0, .cons _ t, h => .cons h t
  | _, _, _, _, i + 1, .cons a t, h => .cons a (Fzs.set i t h)
theorem Fzs.take : ∀ {vs : List V} {ds : List D} (n : Nat), Fzs K B vs ds → Fzs K B (vs.take n) (ds.take n)
  | _, _, 0, _ => .nil
  | _, _, _ + 1, .nil => .nil
  | _, _, n + 1, .cons a t => .cons a (Fzs.take n t)
theorem Fzs.drop : ∀ {vs : List V} {ds : List D} (n : Nat), Fzs K B vs ds → Fzs K B (vs.drop n) (ds.drop n)
  | _, _, 0, h => h
  | _, _, _ + 1, .nil => .nil
  | _, _, n + 1, .cons a t => Fzs.drop n t
theorem Fzs.ints : ∀ {vs : List V} {ns : List Int}, Fzs K B vs (ns.map D.int) → vs = ns.map V.int
  | _, [], .nil => rfl
  | _, n :: ns, .cons (.int _) t => by rw [List.map_cons, Fzs.ints t]
end
mutual

inductive Mk where
  | z
  | l (m : Mk)
  | t (ms : Mks)
inductive Mks where
  | nil
  | cons (m : Mk) (r : Mks)
end
inductive Ob where
  | ff
  | tt
  | dp (m : Mk)
  | al
inductive Slot where
  | un
  | fz (d : D)
  | ow (d : D)
  | io (d : D)
  | dp (m : Mk) (d : D)
abbrev Env := List Slot
def Ct (H : Hp) (a : Addr) : Prop := ∃ o, H a = some o ∧ ∀ xs, o ≠ .tup xs
theorem Ct.ne {H : Hp} {a : Addr} (h : Ct H a) : H a ≠ none := by obtain ⟨o, e, _⟩ := h; rw [e]; simp
theorem Ct.of {H : Hp} {a : Addr} {o : HO} (e : H a = some o) (n : ∀ xs, o ≠ .tup xs) : Ct H a := ⟨o, e, n⟩
theorem Ct.to {H H' : Hp} {a : Addr} (h : Ct H a) (k : ∀ o, H a = some o → H' a = some o) : Ct H' a := by obtain ⟨o, e, n⟩ := h; exact ⟨o, k o e, n⟩
def Ow (K : PySem.W.Frag) (B H : Hp) (a : Addr) : D → Prop
  | .lst ds => B a = none ∧ ∃ vs, H a = some (.lst vs) ∧ Fzs K B vs ds
  | .dic ks ds => B a = none ∧ ∃ vs, H a = some (.dK (dkv ks vs)) ∧ ks.length = vs.length ∧ Fzs K B vs ds
  | .dct ks ds => B a = none ∧ ∃ vs, H a = some (.dT (dkt ks vs)) ∧ ks.length = vs.length ∧ Fzs K B vs ds
  | _ => False
theorem Ow.hid {K : PySem.W.Frag} {B H : Hp} {a : Addr} {d : D} (h : Ow K B H a d) : B a = none := by
  cases d with
  | lst ds => exact h.1
  | dic ks ds => exact h.1
  | dct ks ds => exact h.1
  | _ => exact h.elim
theorem Ow.there {K : PySem.W.Frag} {B H : Hp} {a : Addr} {d : D} (h : Ow K B H a d) : Ct H a := by
  cases d with
  | lst ds => obtain ⟨_, vs, e, _⟩ := h; exact .of e fun _ z => nomatch z
  | dic ks ds => obtain ⟨_, vs, e, _⟩ := h; exact .of e fun _ z => nomatch z
  | dct ks ds => obtain ⟨_, vs, e, _⟩ := h; exact .of e fun _ z => nomatch z
  | _ => exact h.elim
theorem Ow.keep {K : PySem.W.Frag} {B H B' H' : Hp} {a : Addr} {d : D} (h : Ow K B H a d) (e : Ex B B') (h1 : B' a = none) (h2 : ∀ o, H a = some o → H' a = some o) : Ow K B' H' a d := by
  cases d with
  | lst ds => obtain ⟨_, vs, q, f⟩ := h; exact ⟨h1, vs, h2 _ q, f.mono e⟩
  | dic ks ds => obtain ⟨_, vs, q, l, f⟩ := h; exact ⟨h1, vs, h2 _ q, l, f.mono e⟩
  | dct ks ds => obtain ⟨_, vs, q, l, f⟩ := h; exact ⟨h1, vs, h2 _ q, l, f.mono e⟩
  | _ => exact h.elim
theorem Ow.fz {K : PySem.W.Frag} {B H : Hp} {a : Addr} {d : D} (h : Ow K B H a d) : ∃ o, H a = some o ∧ Fz K (upd B a o) (.ref a) d := by
  cases d with
  | lst ds =>
    obtain ⟨n, vs, q, f⟩ := h
    exact ⟨_, q, .lst upd_same (f.mono (Ex.new n))⟩
  | dic ks ds =>
    obtain ⟨n, vs, q, l, f⟩ := h
    exact ⟨_, q, .dic upd_same l (f.mono (Ex.new n))⟩
  | dct ks ds =>
    obtain ⟨n, vs, q, l, f⟩ := h
    exact ⟨_, q, .dct (.inl upd_same) l (f.mono (Ex.new n))⟩
  | _ => exact h.elim
inductive Its (R : V → D → List Addr → Prop) : List V → List D → List Addr → Prop
  | nil : Its R [] [] []
  | cons {v : V} {vs : List V} {d : D} {ds : List D} {S T : List Addr} : R v d S → Its R vs ds T → Its R (v :: vs) (d :: ds) (S ++ T)
mutual
def Tr (K : PySem.W.Frag) (B H : Hp) : Mk → V → D → List Addr → Prop
  | .z, v, d, S => Fz K B v d ∧ S = []
  | .l m, v, d, S => ∃ a vs ds T, v = .ref a ∧ d = .lst ds ∧ B a = none ∧ H a = some (.lst vs) ∧ Its (Tr K B H m) vs ds T ∧ S = a :: T
  | .t ms, v, d, S => ∃ a vs ds, v = .ref a ∧ d = .tup ds ∧ B a = some (.tup vs) ∧ TrT K B H ms vs ds S
def TrT (K : PySem.W.Frag) (B H : Hp) : Mks → List V → List D → List Addr → Prop
  | .nil, vs, ds, S => vs = [] ∧ ds = [] ∧ S = []
  | .cons m r, vs, ds, S => ∃ v vs' d ds' S1 S2, vs = v :: vs' ∧ ds = d :: ds' ∧ Tr K B H m v d S1 ∧ TrT K B H r vs' ds' S2 ∧ S = S1 ++ S2
end
theorem Its.imp {R R' : V → D → List Addr → Prop} {vs : List V} {ds : List D} {S : List Addr} (h : Its R vs ds S) : (∀ v d T, R v d T → (∀ a ∈ T, a ∈ S) → R' v d T) → Its R' vs ds S := by
  induction h with
  | nil => exact fun _ => .nil
  | cons a t ih => exact fun k => .cons (k _ _ _ a fun x hx => List.mem_append_left _ hx) (ih fun v d T r q => k v d T r fun x hx => List.mem_append_right _ (q x hx))
theorem Its.all {R : V → D → List Addr → Prop} {p : Addr → Prop} {vs : List V} {ds : List D} {S : List Addr} (h : Its R vs ds S) (k : ∀ v d T, R v d T → ∀ a ∈ T, p a) : ∀ a ∈ S, p a := by
  induction h with
  | nil => exact fun a q => nomatch q
  | cons a t ih => exact fun x q => (List.mem_append.mp q).elim (k _ _ _ a x) (ih x)
theorem Its.det {R R' : V → D → List Addr → Prop} {vs : List V} {ds ds' : List D} {S S' : List Addr} (h : Its R vs ds S) (h' : Its R' vs ds' S') (k : ∀ v d d' T T', R v d T → R' v d' T' → T = T') : S = S' := by
  induction h generalizing ds' S' with
  | nil => cases h'; rfl
  | cons a t ih =>
    cases h' with
    | cons a' t' => rw [k _ _ _ _ _ a a', ih t']
theorem Its.len {R : V → D → List Addr → Prop} {vs : List V} {ds : List D} {S : List Addr} (h : Its R vs ds S) : vs.length = ds.length := by
  induction h with
  | nil => rfl
  | cons a t ih => rw [List.length_cons, List.length_cons, ih]
section
variable {K : PySem.W.Frag} {B B' H H' : Hp}
mutual
theorem Tr.keep : ∀ {m : Mk} {v : V} {d : D} {S : List Addr}, Tr K B H m v d S → Ex B B' → (∀ a ∈ S, B' a = none) → (∀ a ∈ S, ∀ o, H a = some o → H' a = some o) → Tr K B' H' m v d S
  | .z, _, _, _, h, e, _, _ => by
    unfold Tr at h ⊢
    exact ⟨h.1.mono e, h.2⟩
  | .l m, _, _, _, h, e, h1, h2 => by
    unfold Tr at h ⊢
    obtain ⟨a, vs, ds, T, rfl, rfl, b, q, i, rfl⟩ := h
    exact ⟨a, vs, ds, T, rfl, rfl, h1 a (by simp), h2 a (by simp) _ q, i.imp fun v d T' r s => Tr.keep (m := m) r e (fun x hx => h1 x (List.mem_cons_of_mem _ (s x hx))) (fun x hx => h2 x (List.mem_cons_of_mem _ (s x hx))), rfl⟩
  | .t ms, _, _, _, h, e, h1, h2 => by
    unfold Tr at h ⊢
    obtain ⟨a, vs, ds, rfl, rfl, b, i⟩ := h
    exact ⟨a, vs, ds, rfl, rfl, e _ _ b, TrT.keep (ms := ms) i e h1 h2⟩
theorem TrT.keep : ∀ {ms : Mks} {vs : List V} {ds : List D} {S : List Addr}, TrT K B H ms vs ds S → Ex B B' → (∀ a ∈ S, B' a = none) → (∀ a ∈ S, ∀ o, H a = some o → H' a = some o) → TrT K B' H' ms vs ds S
  | .nil, _, _, _, h, _, _, _ => by
    unfold TrT at h ⊢
    exact h
  | .cons m r, _, _, _, h, e, h1, h2 => by
    unfold TrT at h ⊢
    obtain ⟨v, vs, d, ds, S1, S2, rfl, rfl, t1, t2, rfl⟩ := h
    exact ⟨v, vs, d, ds, S1, S2, rfl, rfl, Tr.keep (m := m) t1 e (fun x hx => h1 x (List.mem_append_left _ hx)) (fun x hx => h2 x (List.mem_append_left _ hx)), TrT.keep (ms := r) t2 e (fun x hx => h1 x (List.mem_append_right _ hx)) (fun x hx => h2 x (List.mem_append_right _ hx)), rfl⟩
end
mutual
theorem Tr.det : ∀ {m : Mk} {v : V} {d d' : D} {S S' : List Addr}, Tr K B H m v d S → Tr K B H m v d' S' → S = S'
  | .z, _, _, _, _, _, h, h' => by
    unfold Tr at h h'
    rw [h.2, h'.2]
  | .l m, _, _, _, _, _, h, h' => by
    unfold Tr at h h'
    obtain ⟨a, vs, ds, T, rfl, rfl, b, q, i, rfl⟩ := h
    obtain ⟨a', vs', ds', T', e, rfl, b', q', i', rfl⟩ := h'
    injection e with e; subst e
    rw [q] at q'; injection q' with q'; injection q' with q'; subst q'
    rw [i.det i' fun v d d' T T' r r' => Tr.det (m := m) r r']
  | .t ms, _, _, _, _, _, h, h' => by
    unfold Tr at h h'
    obtain ⟨a, vs, ds, rfl, rfl, b, i⟩ := h
    obtain ⟨a', vs', ds', e, rfl, b', i'⟩ := h'
    injection e with e; subst e
    rw [b] at b'; injection b' with b'; injection b' with b'; subst b'
    rw [TrT.det (ms := ms) i i']
theorem TrT.det : ∀ {ms : Mks} {vs : List V} {ds ds' : List D} {S S' : List Addr}, TrT K B H ms vs ds S → TrT K B H ms vs ds' S' → S = S'
  | .nil, _, _, _, _, _, h, h' => by
    unfold TrT at h h'
    rw [h.2.2, h'.2.2]
  | .cons m r, _, _, _, _, _, h, h' => by
    unfold TrT at h h'
    obtain ⟨v, vs, d, ds, S1, S2, rfl, rfl, t1, t2, rfl⟩ := h
    obtain ⟨v', vs', d', ds', S1', S2', e, rfl, t1', t2', rfl⟩ := h'
    injection e with e1 e2; subst e1; subst e2
    rw [Tr.det (m := m) t1 t1', TrT.det (ms := r) t2 t2']
end
mutual
theorem Tr.hid : ∀ {m : Mk} {v : V} {d : D} {S : List Addr}, Tr K B H m v d S → ∀ a ∈ S, B a = none ∧ Ct H a
  | .z, _, _, _, h => by
    unfold Tr at h
    rw [h.2]; exact fun a q => nomatch q
  | .l m, _, _, _, h => by
    unfold Tr at h
    obtain ⟨a, vs, ds, T, rfl, rfl, b, q, i, rfl⟩ := h
    intro x hx
    rcases List.mem_cons.mp hx with rfl | hx
    · exact ⟨b, .of q fun _ z => nomatch z⟩
    · exact i.all (fun v d T r => Tr.hid (m := m) r) x hx
  | .t ms, _, _, _, h => by
    unfold Tr at h
    obtain ⟨a, vs, ds, rfl, rfl, b, i⟩ := h
    exact TrT.hid (ms := ms) i
theorem TrT.hid : ∀ {ms : Mks} {vs : List V} {ds : List D} {S : List Addr}, TrT K B H ms vs ds S → ∀ a ∈ S, B a = none ∧ Ct H a
  | .nil, _, _, _, h => by
    unfold TrT at h
    rw [h.2.2]; exact fun a q => nomatch q
  | .cons m r, _, _, _, h => by
    unfold TrT at h
    obtain ⟨v, vs, d, ds, S1, S2, rfl, rfl, t1, t2, rfl⟩ := h
    exact fun x hx => (List.mem_append.mp hx).elim (Tr.hid (m := m) t1 x) (TrT.hid (ms := r) t2 x)
end
def frzB (B H : Hp) (S : List Addr) : Hp := fun a => if a ∈ S then H a else B a
theorem frzB_in {S : List Addr} {a : Addr} (h : a ∈ S) : frzB B H S a = H a := if_pos h
theorem frzB_out {S : List Addr} {a : Addr} (h : a ∉ S) : frzB B H S a = B a := if_neg h
theorem frzB_ex {S : List Addr} (ex : Ex B H) : Ex B (frzB B H S) := fun a o e => by
  by_cases h : a ∈ S
  · rw [frzB_in h]; exact ex a o e
  · rw [frzB_out h]; exact e
theorem frzB_up {S : List Addr} (ex : Ex B H) : Ex (frzB B H S) H := fun a o e => by
  by_cases h : a ∈ S
  · rw [frzB_in h] at e; exact e
  · rw [frzB_out h] at e; exact ex a o e
theorem Its.fzs {m : Mk} {T : List Addr} {vs : List V} {ds : List D} {S : List Addr} (k : ∀ v d S, Tr K B H m v d S → (∀ a ∈ S, a ∈ T) → Fz K (frzB B H T) v d) (h : Its (Tr K B H m) vs ds S) : (∀ a ∈ S, a ∈ T) → Fzs K (frzB B H T) vs ds := by
  induction h with
  | nil => exact fun _ => .nil
  | cons a t ih => exact fun hs => .cons (k _ _ _ a fun x hx => hs x (List.mem_append_left _ hx)) (ih fun x hx => hs x (List.mem_append_right _ hx))
mutual
theorem Tr.fz (ex : Ex B H) {T : List Addr} : ∀ {m : Mk} {v : V} {d : D} {S : List Addr}, Tr K B H m v d S → (∀ a ∈ S, a ∈ T) → Fz K (frzB B H T) v d
  | .z, _, _, _, h, _ => by
    unfold Tr at h
    exact h.1.mono (frzB_ex ex)
  | .l m, _, _, _, h, s => by
    unfold Tr at h
    obtain ⟨a, vs, ds, S, rfl, rfl, b, q, i, rfl⟩ := h
    exact .lst (by rw [frzB_in (s a (by simp))]; exact q) (i.fzs (fun v d S r => Tr.fz ex (m := m) r) fun x hx => s x (List.mem_cons_of_mem _ hx))
  | .t ms, _, _, _, h, s => by
    unfold Tr at h
    obtain ⟨a, vs, ds, rfl, rfl, b, i⟩ := h
    exact .tup (.inl (.inl (frzB_ex ex _ _ b))) (TrT.fz ex (ms := ms) i s)
theorem TrT.fz (ex : Ex B H) {T : List Addr} : ∀ {ms : Mks} {vs : List V} {ds : List D} {S : List Addr}, TrT K B H ms vs ds S → (∀ a ∈ S, a ∈ T) → Fzs K (frzB B H T) vs ds
  | .nil, _, _, _, h, _ => by
    unfold TrT at h
    obtain ⟨rfl, rfl, _⟩ := h
    exact .nil
  | .cons m r, _, _, _, h, s => by
    unfold TrT at h
    obtain ⟨v, vs, d, ds, S1, S2, rfl, rfl, t1, t2, rfl⟩ := h
    exact .cons (Tr.fz ex (m := m) t1 fun x hx => s x (List.mem_append_left _ hx)) (TrT.fz ex (ms := r) t2 fun x hx => s x (List.mem_append_right _ hx))
end
end
structure Fr where
  B0 : Hp
  H0 : Hp
  A : Addr → Prop
  P : List (Option Addr)
def owned : Slot → Bool
  | .ow _ => true
  | .io _ => true
  | .dp _ _ => true
  | _ => false
def flat : Slot → Bool
  | .ow _ => true
  | .io _ => true
  | _ => false
theorem flat_owned {s : Slot} (h : flat s = true) : owned s = true := by cases s <;> first | rfl | cases h
def Slot.dat : Slot → D
  | .un => .non
  | .fz d => d
  | .ow d => d
  | .io d => d
  | .dp _ d => d
def Ft (K : PySem.W.Frag) (B H : Hp) (v : V) : Slot → List Addr → Prop
  | .ow d, S => ∃ a, v = .ref a ∧ Ow K B H a d ∧ S = [a]
  | .io d, S => ∃ a, v = .ref a ∧ Ow K B H a d ∧ S = [a]
  | .dp m d, S => Tr K B H m v d S ∧ S.Nodup
  | .un, _ => False
  | .fz _, _ => False
section
variable {K : PySem.W.Frag} {B B' H H' : Hp} {v : V} {s : Slot} {S T : List Addr}
theorem Ft.owned (h : Ft K B H v s S) : owned s = true := by cases s <;> first | rfl | exact h.elim
theorem Ft.hid (h : Ft K B H v s S) : ∀ a ∈ S, B a = none ∧ Ct H a := by
  cases s with
  | un => exact h.elim
  | fz _ => exact h.elim
  | ow d => obtain ⟨a, rfl, w, rfl⟩ := h; intro x hx; rw [List.mem_singleton.mp hx]; exact ⟨w.hid, w.there⟩
  | io d => obtain ⟨a, rfl, w, rfl⟩ := h; intro x hx; rw [List.mem_singleton.mp hx]; exact ⟨w.hid, w.there⟩
  | dp m d => exact h.1.hid
theorem Ft.keep (h : Ft K B H v s S) (e : Ex B B') (h1 : ∀ a ∈ S, B' a = none) (h2 : ∀ a ∈ S, ∀ o, H a = some o → H' a = some o) : Ft K B' H' v s S := by
  cases s with
  | un => exact h.elim
  | fz _ => exact h.elim
  | ow d => obtain ⟨a, rfl, w, rfl⟩ := h; exact ⟨a, rfl, w.keep e (h1 a (by simp)) (h2 a (by simp)), rfl⟩
  | io d => obtain ⟨a, rfl, w, rfl⟩ := h; exact ⟨a, rfl, w.keep e (h1 a (by simp)) (h2 a (by simp)), rfl⟩
  | dp m d => exact ⟨h.1.keep e h1 h2, h.2⟩
theorem Ft.det (h : Ft K B H v s S) (h' : Ft K B H v s T) : S = T := by
  cases s with
  | un => exact h.elim
  | fz _ => exact h.elim
  | ow d => obtain ⟨a, rfl, w, rfl⟩ := h; obtain ⟨a', e, w', rfl⟩ := h'; injection e with e; rw [e]
  | io d => obtain ⟨a, rfl, w, rfl⟩ := h; obtain ⟨a', e, w', rfl⟩ := h'; injection e with e; rw [e]
  | dp m d => exact h.1.det h'.1
theorem Ft.one {a : Addr} (h : Ft K B H (.ref a) s S) (f : flat s = true) : Ow K B H a s.dat ∧ S = [a] := by
  cases s with
  | ow d => obtain ⟨a', e, w, rfl⟩ := h; injection e with e; subst e; exact ⟨w, rfl⟩
  | io d => obtain ⟨a', e, w, rfl⟩ := h; injection e with e; subst e; exact ⟨w, rfl⟩
  | _ => cases f
theorem Ft.mk {a : Addr} (w : Ow K B H a s.dat) (f : flat s = true) : Ft K B H (.ref a) s [a] := by
  cases s with
  | ow d => exact ⟨a, rfl, w, rfl⟩
  | io d => exact ⟨a, rfl, w, rfl⟩
  | _ => cases f
end
def OwS (K : PySem.W.Frag) (B H : Hp) (ρ : Env) (σ : St) (a : Addr) : Prop := ∃ (i : Nat) (s : Slot) (v : V) (S : List Addr), ρ[i]? = some s ∧ σ[i]? = some (some v) ∧ Ft K B H v s S ∧ a ∈ S
structure Lv (K : PySem.W.Frag) (F : Fr) (ρ : Env) (σ : St) (B H : Hp) : Prop where
  ex : Ex B H
  kept : ∀ a o, F.H0 a = some o → ¬ F.A a → H a = some o
  there : ∀ a, F.H0 a ≠ none → H a ≠ none
  exB : Ex F.B0 B
  hid : ∀ a, F.B0 a = none → Ct F.H0 a → ¬ F.A a → B a = none
  fz : ∀ (i : Nat) (d : D), ρ[i]? = some (Slot.fz d) → ∃ v, σ[i]? = some (some v) ∧ Fz K B v d
  own0 : ∀ (i : Nat) (s : Slot), ρ[i]? = some s → owned s = true → ∃ v S, σ[i]? = some (some v) ∧ Ft K B H v s S ∧ ∀ a ∈ S, F.A a ∨ F.H0 a = none
  io : ∀ (i : Nat) (d : D), ρ[i]? = some (Slot.io d) → ∃ a, F.P[i]? = some (some a) ∧ σ[i]? = some (some (V.ref a))
  ne0 : ∀ (i j : Nat) (s t : Slot) (v w : V) (S T : List Addr) (a : Addr), ρ[i]? = some s → ρ[j]? = some t → σ[i]? = some (some v) → σ[j]? = some (some w) → Ft K B H v s S → Ft K B H w t T → a ∈ S → a ∈ T → i = j
  len : ρ.length = σ.length
section
variable {K : PySem.W.Frag} {F : Fr} {ρ : Env} {σ : St} {B H B' H' : Hp} {t : Slot}
theorem Lv.ow (L : Lv K F ρ σ B H) (i : Nat) (s : Slot) (e : ρ[i]? = some s) (f : flat s = true) : ∃ a, σ[i]? = some (some (V.ref a)) ∧ Ow K B H a s.dat ∧ (F.A a ∨ F.H0 a = none) := by
  obtain ⟨v, S, q, w, g⟩ := L.own0 i s e (flat_owned f)
  have hv : ∃ a, v = .ref a := by
    cases s with
    | ow d => obtain ⟨a, h, _⟩ := w; exact ⟨a, h⟩
    | io d => obtain ⟨a, h, _⟩ := w; exact ⟨a, h⟩
    | _ => cases f
  obtain ⟨a, rfl⟩ := hv
  obtain ⟨w1, rfl⟩ := w.one f
  exact ⟨a, q, w1, g a (by simp)⟩
theorem OwS.mk {i : Nat} {s : Slot} {a : Addr} (e : ρ[i]? = some s) (f : flat s = true) (q : σ[i]? = some (some (V.ref a))) (w : Ow K B H a s.dat) : OwS K B H ρ σ a := ⟨i, s, _, [a], e, q, .mk w f, by simp⟩
theorem Lv.hidOw (L : Lv K F ρ σ B H) {a : Addr} (h : OwS K B H ρ σ a) : B a = none ∧ Ct H a := by
  obtain ⟨i, s, v, S, e, q, w, m⟩ := h
  exact w.hid a m
theorem Lv.ofOw (L : Lv K F ρ σ B H) {a : Addr} (h : OwS K B H ρ σ a) : F.A a ∨ F.H0 a = none := by
  obtain ⟨i, s, v, S, e, q, w, m⟩ := h
  obtain ⟨v', S', q', w', g⟩ := L.own0 i s e w.owned
  rw [q] at q'; injection q' with q'; injection q' with q'; subst q'
  rw [w.det w'] at m
  exact g a m
theorem Lv.move (L : Lv K F ρ σ B H) (ex : Ex B' H') (eB : Ex B B') (k : ∀ a, OwS K B H ρ σ a → B' a = none ∧ ∀ o, H a = some o → H' a = some o)
    (kept : ∀ a o, F.H0 a = some o → ¬ F.A a → H' a = some o) (there : ∀ a, F.H0 a ≠ none → H' a ≠ none) (hid : ∀ a, F.B0 a = none → Ct F.H0 a → ¬ F.A a → B' a = none) : Lv K F ρ σ B' H' := by
  have kp : ∀ {i : Nat} {s : Slot} {v : V} {S : List Addr}, ρ[i]? = some s → σ[i]? = some (some v) → Ft K B H v s S → Ft K B' H' v s S := fun {i s v S} e q w =>
    w.keep eB (fun a m => (k a ⟨i, s, v, S, e, q, w, m⟩).1) (fun a m => (k a ⟨i, s, v, S, e, q, w, m⟩).2)
  refine ⟨ex, kept, there, L.exB.trans eB, hid, fun i d e => ?_, fun i s e w => ?_, L.io, fun i j s t v w S T a e1 e2 q1 q2 f1 f2 m1 m2 => ?_, L.len⟩
  · obtain ⟨v, e1, f⟩ := L.fz i d e
    exact ⟨v, e1, f.mono eB⟩
  · obtain ⟨v, S, q, f, g⟩ := L.own0 i s e w
    exact ⟨v, S, q, kp e q f, g⟩
  · obtain ⟨v', S', q1', f1', _⟩ := L.own0 i s e1 f1.owned
    obtain ⟨w', T', q2', f2', _⟩ := L.own0 j t e2 f2.owned
    rw [q1] at q1'; injection q1' with q1'; injection q1' with q1'; subst q1'
    rw [q2] at q2'; injection q2' with q2'; injection q2' with q2'; subst q2'
    rw [f1.det (kp e1 q1 f1')] at m1
    rw [f2.det (kp e2 q2 f2')] at m2
    exact L.ne0 i j s t v w S' T' a e1 e2 q1 q2 f1' f2' m1 m2
theorem Lv.few (L : Lv K F ρ σ B H) {ρ' : Env} {σ' : St} (len : ρ'.length = σ'.length) (fz : ∀ (i : Nat) (d : D), ρ'[i]? = some (Slot.fz d) → ∃ v, σ'[i]? = some (some v) ∧ Fz K B v d)
    (ow : ∀ (i : Nat) (s : Slot), ρ'[i]? = some s → owned s = true → ρ[i]? = some s ∧ σ'[i]? = σ[i]?) : Lv K F ρ' σ' B H := by
  refine ⟨L.ex, L.kept, L.there, L.exB, L.hid, fz, fun i s e w => ?_, fun i d e => ?_, fun i j s t v w S T a e1 e2 q1 q2 f1 f2 m1 m2 => ?_, len⟩
  · obtain ⟨h1, h2⟩ := ow i s e w
    rw [h2]; exact L.own0 i s h1 w
  · obtain ⟨h1, h2⟩ := ow i _ e rfl
    rw [h2]; exact L.io i d h1
  · obtain ⟨h1, h2⟩ := ow i s e1 f1.owned
    obtain ⟨h3, h4⟩ := ow j t e2 f2.owned
    exact L.ne0 i j s t v w S T a h1 h3 (h2 ▸ q1) (h4 ▸ q2) f1 f2 m1 m2
theorem Lv.alloc (L : Lv K F ρ σ B H) {p : Addr} {o : HO} (h : H p = none) : Lv K F ρ σ (upd B p o) (upd H p o) := by
  have nB : B p = none := L.ex.nn h
  refine L.move L.ex.both (Ex.new nB) (fun a w => ?_) (fun a u e n => ?_) (fun a e => upd_some (L.there a e)) (fun a e n m => ?_)
  · have nap : a ≠ p := fun z => (L.hidOw w).2.ne (z ▸ h)
    exact ⟨by rw [upd_ne nap]; exact (L.hidOw w).1, fun u q => by rw [upd_ne nap]; exact q⟩
  · have := L.kept a u e n
    rw [upd_ne (ne_of_none this h)]; exact this
  · have := L.hid a e n m
    by_cases q : a = p
    · subst q
      cases z : F.H0 a with
      | none => exact absurd z n.ne
      | some u => rw [L.kept a u z m] at h; cases h
    · rw [upd_ne q]; exact this
theorem Lv.allocO (L : Lv K F ρ σ B H) {p : Addr} {o : HO} (h : H p = none) : Lv K F ρ σ B (upd H p o) := by
  have nB : B p = none := L.ex.nn h
  refine L.move (L.ex.right nB) (Ex.refl _) (fun a w => ?_) (fun a u e n => ?_) (fun a e => upd_some (L.there a e)) L.hid
  · have nap : a ≠ p := fun z => (L.hidOw w).2.ne (z ▸ h)
    exact ⟨(L.hidOw w).1, fun u q => by rw [upd_ne nap]; exact q⟩
  · have := L.kept a u e n
    rw [upd_ne (ne_of_none this h)]; exact this
theorem Lv.freezeS (L : Lv K F ρ σ B H) {S : List Addr} (g : ∀ a ∈ S, F.A a ∨ F.H0 a = none) (no : ∀ a ∈ S, ¬ OwS K B H ρ σ a) : Lv K F ρ σ (frzB B H S) H := by
  refine L.move (frzB_up L.ex) (frzB_ex L.ex) (fun a w => ?_) L.kept L.there (fun a e m k => ?_)
  · exact ⟨by rw [frzB_out fun z => no a z w]; exact (L.hidOw w).1, fun _ q => q⟩
  · rw [frzB_out fun z => (g a z).elim k m.ne]; exact L.hid a e m k
theorem Lv.freeze (L : Lv K F ρ σ B H) {p : Addr} {o : HO} (h : H p = some o) (n : B p = none) (g : F.A p ∨ F.H0 p = none) (no : ¬ OwS K B H ρ σ p) : Lv K F ρ σ (upd B p o) H := by
  have e : frzB B H [p] = upd B p o := by
    funext a
    by_cases z : a = p
    · subst z; rw [frzB_in (by simp), upd_same, h]
    · rw [frzB_out (by simpa using z), upd_ne z]
  rw [← e]
  exact L.freezeS (by simpa using g) (by simpa using no)
theorem Lv.freezeT (L : Lv K F ρ σ B H) {p : Addr} {xs : List V} (h : H p = some (.tup xs)) (n : B p = none) : Lv K F ρ σ (upd B p (.tup xs)) H := by
  refine L.move (fun a o e => ?_) (Ex.new n) (fun a w => ?_) L.kept L.there (fun a e m k => ?_)
  · by_cases z : a = p
    · subst z; rw [upd_same] at e; injection e with e; subst e; exact h
    · rw [upd_ne z] at e; exact L.ex a o e
  · have nap : a ≠ p := fun z => by
      subst z
      obtain ⟨o, e, no⟩ := (L.hidOw w).2
      rw [h] at e; injection e with e; exact no xs e.symm
    exact ⟨by rw [upd_ne nap]; exact (L.hidOw w).1, fun _ q => q⟩
  · have nap : a ≠ p := fun z => by
      subst z
      obtain ⟨o, e, no⟩ := m
      have := L.kept a o e k
      rw [h] at this; injection this with this; exact no xs this.symm
    rw [upd_ne nap]; exact L.hid a e m k
theorem get_set {ρ : Env} {i j : Nat} {t s : Slot} (e : (ρ.set i t)[j]? = some s) : (j = i ∧ s = t ∧ i < ρ.length) ∨ (j ≠ i ∧ ρ[j]? = some s) := by
  by_cases h : i = j
  · subst h
    by_cases l : i < ρ.length
    · rw [List.getElem?_set_self l] at e
      injection e with e; exact .inl ⟨rfl, e.symm, l⟩
    · rw [List.getElem?_eq_none (by rw [List.length_set]; omega)] at e; cases e
  · rw [List.getElem?_set_ne h] at e
    exact .inr ⟨fun z => h z.symm, e⟩
theorem Lv.slot (L : Lv K F ρ σ B H) {i : Nat} {t : Slot} (hn : owned t = false) (hf : ∀ d, t = .fz d → i < ρ.length → ∃ v, σ[i]? = some (some v) ∧ Fz K B v d) : Lv K F (ρ.set i t) σ B H := by
  refine L.few (by rw [List.length_set]; exact L.len) (fun j d e => ?_) (fun j s e w => ?_)
  · rcases get_set e with ⟨rfl, z, l⟩ | ⟨_, e⟩
    · exact hf d z.symm l
    · exact L.fz j d e
  · rcases get_set e with ⟨rfl, z, l⟩ | ⟨_, e⟩
    · rw [z, hn] at w; cases w
    · exact ⟨e, rfl⟩
theorem OwS.un {i : Nat} {a : Addr} (h : OwS K B H (ρ.set i .un) σ a) : ∃ (j : Nat) (s : Slot) (v : V) (S : List Addr), j ≠ i ∧ ρ[j]? = some s ∧ σ[j]? = some (some v) ∧ Ft K B H v s S ∧ a ∈ S := by
  obtain ⟨j, s, v, S, e, q, f, m⟩ := h
  rcases get_set e with ⟨rfl, z, l⟩ | ⟨n, e⟩
  · rw [z] at f; exact f.elim
  · exact ⟨j, s, v, S, n, e, q, f, m⟩
theorem Lv.take (L : Lv K F ρ σ B H) {i : Nat} {s : Slot} (e : ρ[i]? = some s) (w : owned s = true) : ∃ v S, σ[i]? = some (some v) ∧ Ft K B H v s S ∧ (∀ a ∈ S, F.A a ∨ F.H0 a = none) ∧ (∀ a ∈ S, ¬ OwS K B H (ρ.set i .un) σ a) ∧ Lv K F (ρ.set i .un) σ B H := by
  obtain ⟨v, S, q, f, g⟩ := L.own0 i s e w
  refine ⟨v, S, q, f, g, fun a m h => ?_, L.slot rfl (fun d z => nomatch z)⟩
  obtain ⟨j, s', v', S', n, e', q', f', m'⟩ := h.un
  exact n (L.ne0 j i s' s v' v S' S a e' e q' q f' f m' m)
theorem Lv.frz0 (L : Lv K F ρ σ B H) {i : Nat} {s : Slot} (e : ρ[i]? = some s) (w : owned s = true) : ∃ B' v, Ex B B' ∧ σ[i]? = some (some v) ∧ Fz K B' v s.dat ∧ Lv K F (ρ.set i (.fz s.dat)) σ B' H := by
  obtain ⟨v, S, q, f, g, no, L1⟩ := L.take e w
  have l : i < ρ.length := (List.getElem?_eq_some_iff.mp e).1
  have L2 := L1.freezeS g no
  have h2 : Fz K (frzB B H S) v s.dat := by
    have flt : ∀ {a : Addr} {d : D}, v = .ref a → Ow K B H a d → S = [a] → Fz K (frzB B H S) v d := by
      intro a d e1 w1 e2
      subst e1; subst e2
      obtain ⟨o, h1, h2⟩ := w1.fz
      refine h2.mono fun b u hb => ?_
      by_cases z : b = a
      · subst z; rw [upd_same] at hb; rw [frzB_in (by simp), h1]; exact hb
      · rw [upd_ne z] at hb; rw [frzB_out (by simpa using z)]; exact hb
    cases s with
    | un => cases w
    | fz _ => cases w
    | ow d => obtain ⟨a, e1, w1, e2⟩ := f; exact flt e1 w1 e2
    | io d => obtain ⟨a, e1, w1, e2⟩ := f; exact flt e1 w1 e2
    | dp m d => exact f.1.fz L.ex fun a m => m
  refine ⟨_, v, frzB_ex L.ex, q, h2, ?_⟩
  have L3 := L2.slot (i := i) (t := .fz s.dat) rfl (fun d' z _ => by injection z with z; subst z; exact ⟨_, q, h2⟩)
  rw [List.set_set] at L3
  exact L3
theorem Lv.frz (L : Lv K F ρ σ B H) {i : Nat} {d : D} (e : ρ[i]? = some (.ow d)) : ∃ B' v, Ex B B' ∧ σ[i]? = some (some v) ∧ Fz K B' v d ∧ Lv K F (ρ.set i (.fz d)) σ B' H := L.frz0 e rfl
theorem Lv.free (L : Lv K F ρ σ B H) {p : Addr} (h : H p = none) : F.H0 p = none := by
  cases q : F.H0 p with
  | none => rfl
  | some o => exact absurd h (L.there p (by rw [q]; simp))
theorem Lv.own (L : Lv K F ρ σ B H) {i : Nat} {t : Slot} {v : V} {S : List Addr} (e : σ[i]? = some (some v)) (w : Ft K B H v t S) (g : ∀ a ∈ S, F.A a ∨ F.H0 a = none) (no : ∀ a ∈ S, ¬ OwS K B H (ρ.set i .un) σ a)
    (hp : ∀ d, t = .io d → ∃ a, v = .ref a ∧ F.P[i]? = some (some a)) : Lv K F (ρ.set i t) σ B H := by
  have ht := w.owned
  have inj : ∀ {u : V}, σ[i]? = some (some u) → u = v := fun {u} q => by rw [e] at q; injection q with q; injection q with q; exact q.symm
  have non : ∀ {j : Nat} {s : Slot} {u : V} {T : List Addr} {a : Addr}, j ≠ i → ρ[j]? = some s → σ[j]? = some (some u) → Ft K B H u s T → a ∈ T → a ∈ S → False := fun {j s u T a} n e1 q f m m2 =>
    no a m2 ⟨j, s, u, T, by rw [List.getElem?_set_ne (Ne.symm n)]; exact e1, q, f, m⟩
  refine ⟨L.ex, L.kept, L.there, L.exB, L.hid, fun j d e1 => ?_, fun j s e1 w1 => ?_, fun j d e1 => ?_, fun j k s u b c S1 T1 a e1 e2 q1 q2 f1 f2 m1 m2 => ?_, by rw [List.length_set]; exact L.len⟩
  · rcases get_set e1 with ⟨rfl, z, l⟩ | ⟨n, e1⟩
    · rw [← z] at ht; cases ht
    · exact L.fz j d e1
  · rcases get_set e1 with ⟨rfl, z, l⟩ | ⟨n, e1⟩
    · rw [z]; exact ⟨v, S, e, w, g⟩
    · exact L.own0 j s e1 w1
  · rcases get_set e1 with ⟨rfl, z, l⟩ | ⟨n, e1⟩
    · obtain ⟨a, h1, h2⟩ := hp d z.symm
      exact ⟨a, h2, by rw [e, h1]⟩
    · exact L.io j d e1
  · rcases get_set e1 with ⟨rfl, z, l⟩ | ⟨n, e1⟩
    · rcases get_set e2 with ⟨rfl, z2, l⟩ | ⟨n2, e2⟩
      · rfl
      · rw [z, inj q1] at f1
        rw [f1.det w] at m1
        exact (non n2 e2 q2 f2 m2 m1).elim
    · rcases get_set e2 with ⟨z1, z, l⟩ | ⟨n2, e2⟩
      · rw [z1] at q2
        rw [z, inj q2] at f2
        rw [f2.det w] at m2
        exact (non n e1 q1 f1 m1 m2).elim
      · exact L.ne0 j k s u b c S1 T1 a e1 e2 q1 q2 f1 f2 m1 m2
theorem Lv.store (L : Lv K F ρ σ B H) {i : Nat} {v : V} (hn : owned t = false) (hf : ∀ d, t = .fz d → Fz K B v d) : Lv K F (ρ.set i t) (σ.set i (some v)) B H := by
  have sg : ∀ {j : Nat}, j ≠ i → (σ.set i (some v))[j]? = σ[j]? := fun {j} h => List.getElem?_set_ne (Ne.symm h)
  refine L.few (by rw [List.length_set, List.length_set]; exact L.len) (fun j d e1 => ?_) (fun j s e1 w1 => ?_)
  · rcases get_set e1 with ⟨rfl, z, l⟩ | ⟨n, e1⟩
    · exact ⟨v, List.getElem?_set_self (by rw [← L.len]; exact l), hf d z.symm⟩
    · rw [sg n]; exact L.fz j d e1
  · rcases get_set e1 with ⟨rfl, z, l⟩ | ⟨n, e1⟩
    · rw [z, hn] at w1; cases w1
    · exact ⟨e1, sg n⟩
theorem OwS.store {i : Nat} {v : V} {a : Addr} (h : OwS K B H (ρ.set i .un) (σ.set i (some v)) a) : OwS K B H ρ σ a := by
  obtain ⟨j, s, u, S, n, e, q, f, m⟩ := h.un
  rw [List.getElem?_set_ne (Ne.symm n)] at q
  exact ⟨j, s, u, S, e, q, f, m⟩
theorem Lv.hidW0 (L : Lv K F ρ σ B H) {p : Addr} {o : HO} (hB : B p = none) (g : F.A p ∨ F.H0 p = none) (no : ¬ OwS K B H ρ σ p) : Lv K F ρ σ B (upd H p o) := by
  refine L.move (L.ex.right hB) (Ex.refl _) (fun a w => ?_) (fun a u e n => ?_) (fun a e => upd_some (L.there a e)) L.hid
  · have nap : a ≠ p := fun z => no (z ▸ w)
    exact ⟨(L.hidOw w).1, fun u q => by rw [upd_ne nap]; exact q⟩
  · have na : a ≠ p := fun z => by
      subst z
      rcases g with g | g
      · exact n g
      · rw [g] at e; cases e
    rw [upd_ne na]; exact L.kept a u e n
theorem OwS.chg {p a : Addr} {o : HO} (L : Lv K F ρ σ B H) (no : ¬ OwS K B H ρ σ p) (h : OwS K B (upd H p o) ρ σ a) : OwS K B H ρ σ a := by
  obtain ⟨i, s, v, S, e, q, f, m⟩ := h
  obtain ⟨v', S', q', f', g⟩ := L.own0 i s e f.owned
  rw [q] at q'; injection q' with q'; injection q' with q'; subst q'
  have f2 : Ft K B (upd H p o) v s S' := f'.keep (Ex.refl _) (fun b hb => (f'.hid b hb).1) (fun b hb u e1 => by
    have nb : b ≠ p := fun z => no (z ▸ ⟨i, s, v, S', e, q, f', hb⟩)
    rw [upd_ne nb]; exact e1)
  rw [f.det f2] at m
  exact ⟨i, s, v, S', e, q, f', m⟩
theorem OwS.back {a : Addr} (L : Lv K F ρ σ B H) (eB : Ex B B') (k : ∀ a, OwS K B H ρ σ a → B' a = none ∧ ∀ o, H a = some o → H' a = some o) (h : OwS K B' H' ρ σ a) : OwS K B H ρ σ a := by
  obtain ⟨i, s, v, S, e, q, f, m⟩ := h
  obtain ⟨v', S', q', f', g⟩ := L.own0 i s e f.owned
  rw [q] at q'; injection q' with q'; injection q' with q'; subst q'
  have f2 : Ft K B' H' v s S' := f'.keep eB (fun b hb => (k b ⟨i, s, v, S', e, q, f', hb⟩).1) (fun b hb => (k b ⟨i, s, v, S', e, q, f', hb⟩).2)
  rw [f.det f2] at m
  exact ⟨i, s, v, S', e, q, f', m⟩
theorem Lv.write (L : Lv K F ρ σ B H) {i : Nat} {s t : Slot} {a : Addr} {o : HO} (e : ρ[i]? = some s) (ho : flat s = true) (q : σ[i]? = some (some (V.ref a))) (ht : (∃ d, s = .ow d ∧ ∃ d', t = .ow d') ∨ ∃ d, s = .io d ∧ ∃ d', t = .io d') (w : Ow K B (upd H a o) a t.dat) : Lv K F (ρ.set i t) σ B (upd H a o) := by
  obtain ⟨v, S, q', f, g, no, L1⟩ := L.take e (flat_owned ho)
  rw [q] at q'; injection q' with q'; injection q' with q'; subst q'
  obtain ⟨w0, rfl⟩ := f.one ho
  have na := no a (by simp)
  have L2 := L1.hidW0 (o := o) w0.hid (g a (by simp)) na
  have ft : flat t = true := by rcases ht with ⟨_, _, _, z⟩ | ⟨_, _, _, z⟩ <;> rw [z] <;> rfl
  have L3 := L2.own (i := i) (t := t) q (.mk w ft) (by simpa using g a (by simp)) (fun b hb h => by
    rw [List.set_set] at h
    rw [List.mem_singleton.mp hb] at h
    exact na (h.chg L1 na)) (fun d z => by
      rcases ht with ⟨_, _, _, y⟩ | ⟨d0, y, _, _⟩
      · rw [y] at z; cases z
      · obtain ⟨b, p1, p2⟩ := L.io i d0 (by rw [e, y])
        rw [q] at p2
        obtain rfl : a = b := by injection p2 with z; injection z with z; injection z
        exact ⟨a, rfl, p1⟩)
  rw [List.set_set] at L3
  exact L3
theorem Lv.nest (L : Lv K F ρ σ B H) : Lv K ⟨B, H, OwS K B H ρ σ, F.P⟩ ρ σ B H :=
  ⟨L.ex, fun _ _ h _ => h, fun _ h => h, Ex.refl _, fun _ h _ _ => h, L.fz, fun i s e w => by
    obtain ⟨v, S, e1, f, _⟩ := L.own0 i s e w
    exact ⟨v, S, e1, f, fun a m => .inl ⟨i, s, v, S, e, e1, f, m⟩⟩, L.io, L.ne0, L.len⟩
theorem Lv.back (L : Lv K F ρ σ B H) {ρ' : Env} {σ' : St} (M : Lv K ⟨B, H, OwS K B H ρ σ, F.P⟩ ρ' σ' B' H') : Lv K F ρ' σ' B' H' := by
  have own : ∀ a, OwS K B H ρ σ a → F.A a ∨ F.H0 a = none := fun a h => L.ofOw h
  refine ⟨M.ex, fun a o e n => ?_, fun a e => M.there a (L.there a e), L.exB.trans M.exB, fun a e n k => ?_, M.fz, fun i s e w => ?_, M.io, M.ne0, M.len⟩
  · refine M.kept a o (L.kept a o e n) fun z => ?_
    rcases own a z with q | q
    · exact n q
    · rw [q] at e; cases e
  · have h1 := L.hid a e n k
    refine M.hid a h1 (n.to fun o q => L.kept a o q k) fun z => ?_
    · rcases own a z with q | q
      · exact k q
      · exact n.ne q
  · obtain ⟨v, S, e1, f, g⟩ := M.own0 i s e w
    refine ⟨v, S, e1, f, fun a m => ?_⟩
    rcases g a m with g | g
    · exact own a g
    · by_cases k : F.A a
      · exact .inl k
      · refine .inr ?_
        cases q : F.H0 a with
        | none => rfl
        | some u => have z := L.kept a u q k; rw [show H a = none from g] at z; cases z
end
end Dt
namespace Dt
open PySem PySem.Spec PyProof.Rows L2
inductive Rs (α : Type) where
  | ok (a : α) (ρ : Env)
  | rz (c : Str) (ρ : Env)
  | fail
abbrev M (α : Type) : Type := Env → Rs α
def M.pure {α : Type} (a : α) : M α := fun ρ => .ok a ρ
def M.bind {α β : Type} (f : M α) (g : α → M β) : M β := fun ρ => match f ρ with
  | .ok a ρ' => g a ρ'
  | .rz c ρ' => .rz c ρ'
  | .fail => .fail
def M.fail {α : Type} : M α := fun _ => .fail
def M.opt {α : Type} (o : Option α) : M α := fun ρ => match o with
  | some a => .ok a ρ
  | none => .fail
def M.raise {α : Type} (c : Str) : M α := fun ρ => .rz c ρ
inductive Fl where
  | nx
  | bk
  | ct
  | rt (d : D) (o : Ob)
def cv (X : Cx) (c : Str) : Value := (X.mg c).getD .none
structure We (X : Cx) (e : Expr) (σ : St) (H : Hp) (Q : VK) : Prop where
  run : ∀ (pins : List (Addr × Obj)) (s : Shared), Inv X pins σ H s → wpAny (model X.prog X.w) X.A (eval e X.env) (EP X pins σ Q) X.xe s
def we (X : Cx) (e : Expr) : TE := We X e
structure Wt (X : Cx) (e : Expr) (σ : St) (H : Hp) (Q : Bool → Hp → Prop) : Prop where
  run : ∀ (pins : List (Addr × Obj)) (s : Shared), Inv X pins σ H s → wpAny (model X.prog X.w) X.A (isTrue e X.env (eval e X.env)) (TP X pins σ Q) X.xe s
def wt (X : Cx) (e : Expr) : TT := Wt X e
structure Wa (X : Cx) (es : List Expr) (σ : St) (H : Hp) (Q : List V → Hp → Prop) : Prop where
  run : ∀ (pos : Pos) (pins : List (Addr × Obj)) (s : Shared), Inv X pins σ H s → wpAny (model X.prog X.w) X.A (spliced (backTo pos (starEach es X.env))) (AP X pins σ Q) X.xe s
def wa (X : Cx) (es : List Expr) : TA := Wa X es
structure Ws (X : Cx) (st : Stmt) (D : Ends) (σ : St) (H : Hp) : Prop where
  run : ∀ (pins : List (Addr × Obj)) (s : Shared), Inv X pins σ H s → wpAny (model X.prog X.w) X.A (exec st X.env) (SP X pins D) X.xe s
def ws (X : Cx) (st : Stmt) : TS := Ws X st
structure Wss (X : Cx) (st : List Stmt) (D : Ends) (σ : St) (H : Hp) : Prop where
  run : ∀ (pins : List (Addr × Obj)) (s : Shared), Inv X pins σ H s → wpAny (model X.prog X.w) X.A (execs st X.env) (SP X pins D) X.xe s
def wss (X : Cx) (st : List Stmt) : TS := Wss X st
section
variable {X : Cx} {e : Expr} {es : List Expr} {st : Stmt} {sts : List Stmt} {σ : St} {H : Hp}
theorem pe_we : PE X e (we X e) := ⟨fun pins s _ _ _ I h => We.run h pins s I⟩
theorem pt_wt : PT X e (wt X e) := ⟨fun pins s _ _ _ I h => Wt.run h pins s I⟩
theorem pa_wa : PA X es (wa X es) := ⟨fun pos pins s _ _ _ I h => Wa.run h pos pins s I⟩
theorem ps_ws : PS X st (ws X st) := ⟨fun pins s _ _ _ I h => Ws.run h pins s I⟩
theorem pss_wss : PSs X sts (wss X sts) := ⟨fun pins s _ _ _ I h => Wss.run h pins s I⟩
theorem PE.we {t : TE} {Q : VK} (h : PE X e t) (q : t σ H Q) : we X e σ H Q := We.mk fun pins s I => h.run pins s σ H Q I q
theorem PT.wt {t : TT} {Q : Bool → Hp → Prop} (h : PT X e t) (q : t σ H Q) : wt X e σ H Q := Wt.mk fun pins s I => h.run pins s σ H Q I q
theorem PA.wa {t : TA} {Q : List V → Hp → Prop} (h : PA X es t) (q : t σ H Q) : wa X es σ H Q := Wa.mk fun pos pins s I => h.run pos pins s σ H Q I q
theorem PS.ws {t : TS} {N : Ends} (h : PS X st t) (q : t N σ H) : ws X st N σ H := Ws.mk fun pins s I => h.run pins s σ H N I q
theorem PSs.wss {t : TS} {N : Ends} (h : PSs X sts t) (q : t N σ H) : wss X sts N σ H := Wss.mk fun pins s I => h.run pins s σ H N I q
end
def Post {α : Type} (X : Cx) (W : WX) (F : Fr) (σ : St) (B : Hp) (r : Rs α) (G : α → Env → Hp → Hp → Prop) : Prop :=
  match r with
  | .ok a ρ' => ∀ B' H', Ex B B' → Lv X.K F ρ' σ B' H' → G a ρ' B' H'
  | .rz c ρ' => ∀ B' H', Ex B B' → Lv X.K F ρ' σ B' H' → W (cv X c) none σ H'
  | .fail => False
section
variable {X : Cx} {W : WX} {F : Fr} {σ : St} {B B1 : Hp} {α β : Type} {ρ : Env}
theorem Post.weak {r : Rs α} {G : α → Env → Hp → Hp → Prop} (h : Post X W F σ B r G) (e : Ex B B1) : Post X W F σ B1 r G := by
  cases r with
  | ok a ρ' => exact fun B' H' e' L => h B' H' (e.trans e') L
  | rz c ρ' => exact fun B' H' e' L => h B' H' (e.trans e') L
  | fail => exact h
theorem Post.imp {r : Rs α} {G G' : α → Env → Hp → Hp → Prop} (h : Post X W F σ B r G) (k : ∀ a ρ' B' H', Ex B B' → Lv X.K F ρ' σ B' H' → G a ρ' B' H' → G' a ρ' B' H') : Post X W F σ B r G' := by
  cases r with
  | ok a ρ' => exact fun B' H' e L => k a ρ' B' H' e L (h B' H' e L)
  | rz c ρ' => exact h
  | fail => exact h
theorem Post.bind {f : M α} {g : α → M β} {G : β → Env → Hp → Hp → Prop} (h : Post X W F σ B (M.bind f g ρ) G) : Post X W F σ B (f ρ) (fun a ρ1 B1 _ => Post X W F σ B1 (g a ρ1) G) := by
  unfold M.bind at h
  cases q : f ρ with
  | ok a ρ' => rw [q] at h; exact fun B' H' e L => Post.weak h e
  | rz c ρ' => rw [q] at h; exact h
  | fail => rw [q] at h; exact h
theorem Post.opt {o : Option α} {G : α → Env → Hp → Hp → Prop} (h : Post X W F σ B (M.opt o ρ) G) : ∃ a, o = some a ∧ ∀ B' H', Ex B B' → Lv X.K F ρ σ B' H' → G a ρ B' H' := by
  cases o with
  | none => exact h.elim
  | some a => exact ⟨a, rfl, h⟩
end
def EV (X : Cx) (W : WX) (e : Expr) (f : M D) : Prop := ∀ (F : Fr) (ρ : Env) (σ : St) (B H : Hp) (Q : VK), Lv X.K F ρ σ B H →
  Post X W F σ B (f ρ) (fun d _ B' H' => ∀ v, Fz X.K B' v d → Q v H') → we X e σ H Q
def ET (X : Cx) (W : WX) (e : Expr) (f : M Bool) : Prop := ∀ (F : Fr) (ρ : Env) (σ : St) (B H : Hp) (Q : Bool → Hp → Prop), Lv X.K F ρ σ B H →
  Post X W F σ B (f ρ) (fun b _ _ H' => Q b H') → wt X e σ H Q
def EA (X : Cx) (W : WX) (es : List Expr) (f : M (List D)) : Prop := ∀ (F : Fr) (ρ : Env) (σ : St) (B H : Hp) (Q : List V → Hp → Prop), Lv X.K F ρ σ B H →
  Post X W F σ B (f ρ) (fun ds _ B' H' => ∀ vs, Fzs X.K B' vs ds → Q vs H') → wa X es σ H Q
def VO (K : PySem.W.Frag) (F : Fr) (ρ : Env) (σ : St) (B H : Hp) (v : V) (d : D) : Ob → Prop
  | .tt => ∃ a, v = .ref a ∧ Ow K B H a d ∧ (F.A a ∨ F.H0 a = none) ∧ ¬ OwS K B H ρ σ a
  | .ff => Fz K B v d
  | .dp m => ∃ S, Tr K B H m v d S ∧ S.Nodup ∧ ∀ a ∈ S, (F.A a ∨ F.H0 a = none) ∧ ¬ OwS K B H ρ σ a
  | .al => ∃ (j : Nat) (a : Addr), F.P[j]? = some (some a) ∧ v = .ref a
def EO (X : Cx) (W : WX) (e : Expr) (f : M (D × Ob)) : Prop := ∀ (F : Fr) (ρ : Env) (σ : St) (B H : Hp) (Q : VK), Lv X.K F ρ σ B H →
  Post X W F σ B (f ρ) (fun p ρ' B' H' => ∀ v, VO X.K F ρ' σ B' H' v p.1 p.2 → Q v H') → we X e σ H Q
def PostS (X : Cx) (W : WX) (F : Fr) (B : Hp) (r : Rs Fl) (N : Ends) : Prop :=
  match r with
  | .ok .nx ρ' => ∀ σ' B' H', Ex B B' → Lv X.K F ρ' σ' B' H' → N.nx σ' H'
  | .ok .bk ρ' => ∀ σ' B' H', Ex B B' → Lv X.K F ρ' σ' B' H' → N.bk σ' H'
  | .ok .ct ρ' => ∀ σ' B' H', Ex B B' → Lv X.K F ρ' σ' B' H' → N.ct σ' H'
  | .ok (.rt d o) ρ' => ∀ v σ' B' H', Ex B B' → Lv X.K F ρ' σ' B' H' → VO X.K F ρ' σ' B' H' v d o → N.rt v H'
  | .rz c ρ' => ∀ σ' B' H', Ex B B' → Lv X.K F ρ' σ' B' H' → W (cv X c) none σ' H'
  | .fail => False
def SV (X : Cx) (W : WX) (st : Stmt) (f : M Fl) : Prop := ∀ (F : Fr) (ρ : Env) (σ : St) (B H : Hp) (N : Ends), Lv X.K F ρ σ B H → PostS X W F B (f ρ) N → ws X st N σ H
def SVs (X : Cx) (W : WX) (sts : List Stmt) (f : M Fl) : Prop := ∀ (F : Fr) (ρ : Env) (σ : St) (B H : Hp) (N : Ends), Lv X.K F ρ σ B H → PostS X W F B (f ρ) N → wss X sts N σ H
theorem PostS.weak {X : Cx} {W : WX} {F : Fr} {B B1 : Hp} {r : Rs Fl} {N : Ends} (h : PostS X W F B r N) (e : Ex B B1) : PostS X W F B1 r N := by
  cases r with
  | ok a ρ' =>
    cases a with
    | nx => exact fun σ' B' H' e' L => h σ' B' H' (e.trans e') L
    | bk => exact fun σ' B' H' e' L => h σ' B' H' (e.trans e') L
    | ct => exact fun σ' B' H' e' L => h σ' B' H' (e.trans e') L
    | rt d o => exact fun v σ' B' H' e' L => h v σ' B' H' (e.trans e') L
  | rz c ρ' => exact fun σ' B' H' e' L => h σ' B' H' (e.trans e') L
  | fail => exact h
theorem PostS.bind {X : Cx} {W : WX} {F : Fr} {B : Hp} {σ : St} {α : Type} {ρ : Env} {f : M α} {g : α → M Fl} {N : Ends} (h : PostS X W F B (M.bind f g ρ) N) : Post X W F σ B (f ρ) (fun a ρ1 B1 _ => PostS X W F B1 (g a ρ1) N) := by
  unfold M.bind at h
  cases q : f ρ with
  | ok a ρ' => rw [q] at h; exact fun B' H' e L => PostS.weak h e
  | rz c ρ' => rw [q] at h; exact fun B' H' e L => h σ B' H' e L
  | fail => rw [q] at h; exact h
def Grow (K : PySem.W.Frag) (B H : Hp) (d : D) (Q : VK) : Prop := (∀ v, Fz K B v d → Q v H) ∧ ∀ p o v, H p = none → Fz K (upd B p o) v d → Q v (upd H p o)
theorem Lv.grow {K : PySem.W.Frag} {F : Fr} {ρ : Env} {σ : St} {B H : Hp} {d : D} {Q : VK} (L : Lv K F ρ σ B H) (h : ∀ B' H', Ex B B' → Lv K F ρ σ B' H' → ∀ v, Fz K B' v d → Q v H') : Grow K B H d Q :=
  ⟨fun v f => h B H (Ex.refl _) L v f, fun p o v n f => h _ _ (Ex.new (L.ex.nn n)) (L.alloc n) v f⟩
section
variable {X : Cx} {W : WX} {e a b c : Expr} {pos : Pos}
def mVar (i : Nat) : M D := fun ρ => match ρ[i]? with
  | some (.fz d) => .ok d ρ
  | some (.ow d) => .ok d (ρ.set i (.fz d))
  | some (.dp _ d) => .ok d (ρ.set i (.fz d))
  | _ => .fail
theorem ev_var (i : Nat) {x : Str} (hN : X.N[i]? = some x := by rfl) (hv : Vis X.env.scope x := by first | exact Or.inl rfl | exact Or.inr (Or.inl rfl) | exact Or.inr (Or.inr rfl)) (hd : (x == ("__debug__" : Str)) = false := by decide)
    (hcd : (x == ("__classdict__" : Str)) = false := by decide) : EV X W (.Name x pos) (mVar i) := by
  intro F ρ σ B H Q L P
  refine PE.we (pe_var hN hv hd hcd) ?_
  unfold mVar at P
  split at P
  · rename_i d h
    obtain ⟨v, e1, f⟩ := L.fz i d h
    exact ⟨v, e1, P B H (Ex.refl _) L v f⟩
  · rename_i d h
    obtain ⟨B', v, e1, e2, f, L'⟩ := L.frz h
    exact ⟨v, e2, P B' H e1 L' v f⟩
  · rename_i m d h
    obtain ⟨B', v, e1, e2, f, L'⟩ := L.frz0 h rfl
    exact ⟨v, e2, P B' H e1 L' v f⟩
  · exact P.elim
theorem ev_c {d : D} {v : V} (h : PE X e (tC v)) (hf : ∀ B, Fz X.K B v d) : EV X W e (M.pure d) := by
  intro F ρ σ B H Q L P
  exact PE.we h (P B H (Ex.refl _) L v (hf B))
theorem ev_int {i : Int} {j : Nat} : EV X W (.Constant (.int i) j pos) (M.pure (.int i)) := ev_c pe_int fun _ => .int i
theorem ev_str {x : Str} {j : Nat} : EV X W (.Constant (.str x) j pos) (M.pure (.str x)) := ev_c pe_str fun _ => .str x
theorem ev_bl {k : Bool} {j : Nat} : EV X W (.Constant (.bool k) j pos) (M.pure (.bl k)) := ev_c pe_bl fun _ => .bl k
theorem ev_glob {x : Str} {v : V} {u : Value} {d : D} (hg : Gl X x) (hm : X.mg x = some u) (r : RelV v u) (hf : ∀ B, Fz X.K B v d) (hd : (x == ("__debug__" : Str)) = false := by decide) : EV X W (.Name x pos) (M.pure d) := ev_c (pe_glob hg hm r hd) hf
def mBin (g : D → D → Option D) (f1 f2 : M D) : M D := M.bind f1 fun x => M.bind f2 fun y => M.opt (g x y)
def OpD (K : PySem.W.Frag) (r : R2) (g : D → D → Option D) : Prop := ∀ (x y : V) (dx dy d : D) (B H : Hp) (Q : VK), Ex B H → Fz K B x dx → Fz K B y dy → g dx dy = some d → Grow K B H d Q → r x y H Q
theorem ev_two {r : R2} {g : D → D → Option D} {f1 f2 : M D} (h : PE X e (tOp r (we X a) (we X b))) (hr : OpD X.K r g) (ha : EV X W a f1) (hb : EV X W b f2) : EV X W e (mBin g f1 f2) := by
  intro F ρ σ B H Q L P
  refine PE.we h ?_
  refine ha F ρ σ B H _ L ((Post.bind P).imp fun dx ρ1 B1 H1 e1 L1 P1 x fx => ?_)
  refine hb F ρ1 σ B1 H1 _ L1 ((Post.bind P1).imp fun dy ρ2 B2 H2 e2 L2 P2 y fy => ?_)
  obtain ⟨d, hd, k⟩ := P2.opt
  exact hr x y dx dy d B2 H2 Q L2.ex (fx.mono e2) fy hd (L2.grow k)
theorem ev_op {op : Operator} {r : R2} {g : D → D → Option D} {f1 f2 : M D} (ho : OpR X (binaryOp op) r) (hr : OpD X.K r g) (ha : EV X W a f1) (hb : EV X W b f2) : EV X W (.BinOp a op b pos) (mBin g f1 f2) :=
  ev_two (pe_op ho pe_we pe_we) hr ha hb
theorem ev_cmp {op : CmpOp} {r : R2} {g : D → D → Option D} {f1 f2 : M D} (ho : OpR X (compareOp op) r) (hr : OpD X.K r g) (ha : EV X W a f1) (hb : EV X W b f2) (hm : behindInMarks op b = false := by first | exact nomark _ | rfl) : EV X W (.Compare a [op] [b] pos) (mBin g f1 f2) :=
  ev_two (pe_cmpR ho pe_we pe_we hm) hr ha hb
theorem ev_ix {r : R2} {g : D → D → Option D} {f1 f2 : M D} (ho : IxR X r) (hr : OpD X.K r g) (ha : EV X W a f1) (hb : EV X W b f2) (hs : PlainIx b := by exact fun _ _ => rfl) : EV X W (.Subscript a b pos) (mBin g f1 f2) :=
  ev_two (pe_ix ho pe_we pe_we hs) hr ha hb
def mUn (g : D → Option D) (f1 : M D) : M D := M.bind f1 fun x => M.opt (g x)
def UnD (K : PySem.W.Frag) (r : V → Hp → VK → Prop) (g : D → Option D) : Prop := ∀ (x : V) (dx d : D) (B H : Hp) (Q : VK), Ex B H → Fz K B x dx → g dx = some d → Grow K B H d Q → r x H Q
theorem ev_un {op : UnaryOp} {r : V → Hp → VK → Prop} {g : D → Option D} {f1 : M D} (ho : UnR X (unaryOp op) r) (hr : UnD X.K r g) (ha : EV X W a f1) : EV X W (.UnaryOp op a pos) (mUn g f1) := by
  intro F ρ σ B H Q L P
  refine PE.we (pe_un ho pe_we) ?_
  refine ha F ρ σ B H _ L ((Post.bind P).imp fun dx ρ1 B1 H1 e1 L1 P1 x fx => ?_)
  obtain ⟨d, hd, k⟩ := P1.opt
  exact hr x dx d B1 H1 Q L1.ex fx hd (L1.grow k)
def mNil : M (List D) := M.pure []
def mCons (f : M D) (g : M (List D)) : M (List D) := M.bind f fun x => M.bind g fun xs => M.pure (x :: xs)
theorem ea_nil : EA X W [] mNil := fun F ρ σ B H Q L P => PA.wa pa_nil (P B H (Ex.refl _) L [] .nil)
def unStar : Expr → Bool
  | .Starred _ _ => false
  | _ => true
theorem star_un {e : Expr} {es : List Expr} {env : PySem.Env} (h : unStar e = true) : starEach (e :: es) env = (false, eval e env) :: starEach es env := by
  cases e <;> first | rfl | cases h
theorem ea_cons {es : List Expr} {f : M D} {g : M (List D)} (ha : EV X W e f) (hr : EA X W es g) (hs : starEach (e :: es) X.env = (false, eval e X.env) :: starEach es X.env := by exact star_un rfl) : EA X W (e :: es) (mCons f g) := by
  intro F ρ σ B H Q L P
  refine PA.wa (pa_cons pe_we pa_wa hs) ?_
  refine ha F ρ σ B H _ L ((Post.bind P).imp fun dx ρ1 B1 H1 e1 L1 P1 x fx => ?_)
  refine hr F ρ1 σ B1 H1 _ L1 ((Post.bind P1).imp fun ds ρ2 B2 H2 e2 L2 P2 xs fs => ?_)
  exact P2 B2 H2 (Ex.refl _) L2 _ (.cons (fx.mono e2) fs)
def mCall (g : List D → Option D) (f : M (List D)) : M D := M.bind f fun xs => M.opt (g xs)
def CallD (K : PySem.W.Frag) (r : List V → Hp → VK → Prop) (g : List D → Option D) : Prop := ∀ (xs : List V) (ds : List D) (d : D) (B H : Hp) (Q : VK), Ex B H → Fzs K B xs ds → g ds = some d → Grow K B H d Q → r xs H Q
theorem ev_callG {es : List Expr} {r : List V → Hp → VK → Prop} {g : List D → Option D} {f : M (List D)} (h : PE X e (tCB r (wa X es))) (hr : CallD X.K r g) (ha : EA X W es f) : EV X W e (mCall g f) := by
  intro F ρ σ B H Q L P
  refine PE.we h ?_
  refine ha F ρ σ B H _ L ((Post.bind P).imp fun ds ρ1 B1 H1 e1 L1 P1 xs fs => ?_)
  obtain ⟨d, hd, k⟩ := P1.opt
  exact hr xs ds d B1 H1 Q L1.ex fs hd (L1.grow k)
theorem ev_callB {x : Str} {id : String} {es : List Expr} {p : Pos} {r : List V → Hp → VK → Prop} {g : List D → Option D} {f : M (List D)} (hc : CallR X (.builtin id) r) (hr : CallD X.K r g) (hg : Gl X x) (hm : X.mg x = none) (hv : bootBuiltins x = some (.builtin id))
    (ha : EA X W (e :: es) f) (hn : x ≠ "__name__" := by decide) (hdb : (x == ("__debug__" : Str)) = false := by decide)
    (he : starEach (e :: es) X.env = (false, eval e X.env) :: starEach es X.env := by exact star_un rfl) (hpl : (backTo pos (starEach es X.env)).any (·.1) = false := by rfl) : EV X W (.Call (.Name x p) (e :: es) [] pos) (mCall g f) :=
  ev_callG (pe_callB hc hg hm hv pa_wa hn hdb he hpl) hr ha
theorem ev_callTy {x : Str} {T : String} {es : List Expr} {p : Pos} {r : List V → Hp → VK → Prop} {g : List D → Option D} {f : M (List D)} (hc : CallR X (.type T) r) (hr : CallD X.K r g) (hg : Gl X x) (hm : X.mg x = none) (hv : bootBuiltins x = some (.type T))
    (ha : EA X W (e :: es) f) (hn : x ≠ "__name__" := by decide) (hdb : (x == ("__debug__" : Str)) = false := by decide)
    (he : starEach (e :: es) X.env = (false, eval e X.env) :: starEach es X.env := by exact star_un rfl) (hpl : (backTo pos (starEach es X.env)).any (·.1) = false := by rfl) : EV X W (.Call (.Name x p) (e :: es) [] pos) (mCall g f) :=
  ev_callG (pe_callTy hc hg hm hv pa_wa hn hdb he hpl) hr ha
def mTup (f : M (List D)) : M D := M.bind f fun xs => M.opt (if xs.length ≤ 10000 then some (.tup xs) else none)
theorem len_line {n : Nat} (h : n ≤ 100000) : n ≤ sizeLine := Nat.le_trans h (by decide)
theorem ev_tup {es : List Expr} {k : Nat} {f : M (List D)} (ha : EA X W es f) : EV X W (.Tuple es k pos) (mTup f) := by
  intro F ρ σ B H Q L P
  refine PE.we (pe_tup pa_wa) ?_
  refine ha F ρ σ B H _ L ((Post.bind P).imp fun ds ρ1 B1 H1 e1 L1 P1 xs fs => ?_)
  obtain ⟨d, hd, k⟩ := P1.opt
  split at hd
  · injection hd with hd; subst hd
    refine ⟨len_line (by rw [fs.len]; omega), fun p hp => (L1.grow k).2 p _ _ hp (.tup (.inl (.inl upd_same)) (fs.mono (Ex.new (L1.ex.nn hp))))⟩
  · cases hd
def Ob.ok : Ob → Bool
  | .al => false
  | _ => true
def mFz (f : M (D × Ob)) : M D := M.bind f fun p => M.opt (if p.2.ok = true then some p.1 else none)
theorem Lv.vfz {K : PySem.W.Frag} {F : Fr} {ρ : Env} {σ : St} {B H : Hp} {v : V} {d : D} {o : Ob} (L : Lv K F ρ σ B H) (h : VO K F ρ σ B H v d o) (ok : o.ok = true) : ∃ B', Ex B B' ∧ Lv K F ρ σ B' H ∧ Fz K B' v d := by
  cases o with
  | ff => exact ⟨B, Ex.refl _, L, h⟩
  | tt =>
    obtain ⟨a, rfl, w, n, no⟩ := h
    obtain ⟨o, h1, h2⟩ := w.fz
    exact ⟨_, Ex.new w.hid, L.freeze h1 w.hid n no, h2⟩
  | dp m =>
    obtain ⟨S, t, nd, g⟩ := h
    exact ⟨_, frzB_ex L.ex, L.freezeS (fun a m => (g a m).1) (fun a m => (g a m).2), t.fz L.ex fun a m => m⟩
  | al => cases ok
theorem ev_of {f : M (D × Ob)} (h : EO X W e f) : EV X W e (mFz f) := by
  intro F ρ σ B H Q L P
  refine h F ρ σ B H Q L ((Post.bind P).imp fun p ρ1 B1 H1 e1 L1 P1 v w => ?_)
  obtain ⟨d, hd, k⟩ := P1.opt
  split at hd
  · rename_i ok
    injection hd with hd; subst hd
    obtain ⟨B2, e2, L2, f2⟩ := L1.vfz w ok
    exact k B2 H1 e2 L2 v f2
  · cases hd
def mOf (f : M D) : M (D × Ob) := M.bind f fun d => M.pure (d, .ff)
theorem eo_of {f : M D} (h : EV X W e f) : EO X W e (mOf f) := by
  intro F ρ σ B H Q L P
  exact h F ρ σ B H Q L ((Post.bind P).imp fun d ρ1 B1 H1 e1 L1 P1 v w => P1 B1 H1 (Ex.refl _) L1 v w)
def mMove (i : Nat) : M (D × Ob) := fun ρ => match ρ[i]? with
  | some (.fz d) => .ok (d, .ff) ρ
  | some (.ow d) => .ok (d, .tt) (ρ.set i .un)
  | some (.dp m d) => .ok (d, .dp m) (ρ.set i .un)
  | _ => .fail
def mLst (f : M (List D)) : M (D × Ob) := M.bind f fun xs => M.opt (if xs.length ≤ 10000 then some (.lst xs, .tt) else none)
theorem Lv.newL {K : PySem.W.Frag} {F : Fr} {ρ : Env} {σ : St} {B H : Hp} {p : Addr} {xs : List V} {ds : List D} (L : Lv K F ρ σ B H) (hp : H p = none) (fs : Fzs K B xs ds) : Lv K F ρ σ B (upd H p (.lst xs)) ∧ VO K F ρ σ B (upd H p (.lst xs)) (.ref p) (.lst ds) .tt :=
  ⟨L.allocO hp, p, rfl, ⟨L.ex.nn hp, xs, upd_same, fs⟩, .inr (L.free hp), fun h => (L.hidOw (h.chg L fun z => (L.hidOw z).2.ne hp)).2.ne hp⟩
theorem eo_lst {es : List Expr} {f : M (List D)} (ha : EA X W es f) : EO X W (.List es pos) (mLst f) := by
  intro F ρ σ B H Q L P
  refine PE.we (pe_lst pa_wa) ?_
  refine ha F ρ σ B H _ L ((Post.bind P).imp fun ds ρ1 B1 H1 e1 L1 P1 xs fs => ?_)
  obtain ⟨d, hd, k⟩ := P1.opt
  split at hd
  · injection hd with hd; subst hd
    refine ⟨len_line (by rw [fs.len]; omega), fun p hp => ?_⟩
    obtain ⟨L2, v2⟩ := L1.newL hp fs
    exact k B1 _ (Ex.refl _) L2 _ v2
  · cases hd
theorem eo_move (i : Nat) {x : Str} (hN : X.N[i]? = some x := by rfl) (hv : Vis X.env.scope x := by first | exact Or.inl rfl | exact Or.inr (Or.inl rfl) | exact Or.inr (Or.inr rfl)) (hd : (x == ("__debug__" : Str)) = false := by decide)
    (hcd : (x == ("__classdict__" : Str)) = false := by decide) : EO X W (.Name x pos) (mMove i) := by
  intro F ρ σ B H Q L P
  refine PE.we (pe_var hN hv hd hcd) ?_
  unfold mMove at P
  split at P
  · rename_i d h
    obtain ⟨v, e1, f⟩ := L.fz i d h
    exact ⟨v, e1, P B H (Ex.refl _) L v f⟩
  · rename_i d h
    obtain ⟨v, S, e1, f, g, no, L1⟩ := L.take h rfl
    obtain ⟨a, rfl, w, rfl⟩ := f
    exact ⟨_, e1, P B H (Ex.refl _) L1 _ ⟨a, rfl, w, g a (by simp), no a (by simp)⟩⟩
  · rename_i m d h
    obtain ⟨v, S, e1, f, g, no, L1⟩ := L.take h rfl
    exact ⟨_, e1, P B H (Ex.refl _) L1 _ ⟨S, f.1, f.2, fun a m => ⟨g a m, no a m⟩⟩⟩
  · exact P.elim
end
end Dt
namespace Dt
open PySem PySem.Spec PyProof.Rows L2
section
variable {X : Cx} {W : WX} {e a b c : Expr} {pos : Pos}
def asBl : D → Option Bool
  | .bl k => some k
  | _ => none
theorem Fz.bl_inv {K : PySem.W.Frag} {B : Hp} {v : V} {d : D} {k : Bool} (h : Fz K B v d) (e : asBl d = some k) : v = .bl k := by
  cases h with
  | bl b => injection e with e; rw [e]
  | _ => cases e
def mTest (f : M D) : M Bool := M.bind f fun d => M.opt (asBl d)
theorem et_val {f : M D} (he : EV X W e f) (hw : ∀ whole, isTrue e X.env whole = (do let v ← whole; standAt e.pos; holding [v] (truthy v)) := by intro _; rfl) : ET X W e (mTest f) := by
  intro F ρ σ B H Q L P
  refine PT.wt (pt_val pe_we hw) ?_
  refine he F ρ σ B H _ L ((Post.bind P).imp fun d ρ1 B1 H1 e1 L1 P1 v fv => ?_)
  obtain ⟨k, hk, q⟩ := P1.opt
  exact ⟨k, fv.bl_inv hk, q B1 H1 (Ex.refl _) L1⟩
theorem et_cmp {op : CmpOp} {r : R2} {g : D → D → Option D} {f1 f2 : M D} (ho : OpR X (compareOp op) r) (hr : OpD X.K r g) (ha : EV X W a f1) (hb : EV X W b f2) (hm : behindInMarks op b = false := by first | exact nomark _ | rfl) : ET X W (.Compare a [op] [b] pos) (mTest (mBin g f1 f2)) := by
  intro F ρ σ B H Q L P
  refine PT.wt (pt_cmpR ho pe_we pe_we hm) ?_
  have P0 := Post.bind P
  refine ha F ρ σ B H _ L ((Post.bind P0).imp fun dx ρ1 B1 H1 e1 L1 P1 x fx => ?_)
  refine hb F ρ1 σ B1 H1 _ L1 ((Post.bind P1).imp fun dy ρ2 B2 H2 e2 L2 P2 y fy => ?_)
  obtain ⟨d, hd, k⟩ := P2.opt
  refine hr x y dx dy d B2 H2 _ L2.ex (fx.mono e2) fy hd (L2.grow fun B' H' e' L' v fv => ?_)
  obtain ⟨kk, hk, q⟩ := (k B' H' e' L').opt
  exact ⟨kk, fv.bl_inv hk, q B' H' (Ex.refl _) L'⟩
structure Ww (X : Cx) (e : Expr) (σ : St) (H : Hp) (Q : Bool → Hp → Prop) : Prop where
  run : ∀ (whole : Sem Value) (pins : List (Addr × Obj)) (s : Shared), Inv X pins σ H s → wpAny (model X.prog X.w) X.A (isTrue e X.env whole) (TP X pins σ Q) X.xe s
def ww (X : Cx) (e : Expr) : TT := Ww X e
theorem pw_ww : PW X e (ww X e) := ⟨fun whole pins s _ _ _ I h => Ww.run h whole pins s I⟩
theorem PW.ww {t : TT} {Q : Bool → Hp → Prop} {σ : St} {H : Hp} (h : PW X e t) (q : t σ H Q) : ww X e σ H Q := Ww.mk fun whole pins s I => h.run whole pins s σ H Q I q
def EW (X : Cx) (W : WX) (e : Expr) (f : M Bool) : Prop := ∀ (F : Fr) (ρ : Env) (σ : St) (B H : Hp) (Q : Bool → Hp → Prop), Lv X.K F ρ σ B H →
  Post X W F σ B (f ρ) (fun b _ _ H' => Q b H') → ww X e σ H Q
theorem et_w {f : M Bool} (h : EW X W e f) : ET X W e f := fun F ρ σ B H Q L P => PT.wt (PW.pt pw_ww) (h F ρ σ B H Q L P)
def mAnd (f g : M Bool) : M Bool := M.bind f fun k => match k with
  | true => g
  | false => M.pure false
def mOr (f g : M Bool) : M Bool := M.bind f fun k => match k with
  | true => M.pure true
  | false => g
def mNot (f : M Bool) : M Bool := M.bind f fun k => M.pure (!k)
theorem ew_and1 {f : M Bool} (ha : ET X W a f) : EW X W (.BoolOp .And [a] pos) f := fun F ρ σ B H Q L P => PW.ww (pw_and1 pt_wt) (ha F ρ σ B H Q L P)
theorem ew_or1 {f : M Bool} (ha : ET X W a f) : EW X W (.BoolOp .Or [a] pos) f := fun F ρ σ B H Q L P => PW.ww (pw_or1 pt_wt) (ha F ρ σ B H Q L P)
theorem ew_and {rest : List Expr} {f g : M Bool} (ha : ET X W a f) (hb : EW X W (.BoolOp .And (b :: rest) pos) g) : EW X W (.BoolOp .And (a :: b :: rest) pos) (mAnd f g) := by
  intro F ρ σ B H Q L P
  refine PW.ww (pw_and pt_wt pw_ww) ?_
  refine ha F ρ σ B H _ L ((Post.bind P).imp fun k ρ1 B1 H1 e1 L1 P1 => ?_)
  cases k with
  | true => rw [if_pos rfl]; exact hb F ρ1 σ B1 H1 Q L1 P1
  | false => rw [if_neg Bool.false_ne_true]; exact P1 B1 H1 (Ex.refl _) L1
theorem ew_or {rest : List Expr} {f g : M Bool} (ha : ET X W a f) (hb : EW X W (.BoolOp .Or (b :: rest) pos) g) : EW X W (.BoolOp .Or (a :: b :: rest) pos) (mOr f g) := by
  intro F ρ σ B H Q L P
  refine PW.ww (pw_or pt_wt pw_ww) ?_
  refine ha F ρ σ B H _ L ((Post.bind P).imp fun k ρ1 B1 H1 e1 L1 P1 => ?_)
  cases k with
  | true => rw [if_pos rfl]; exact P1 B1 H1 (Ex.refl _) L1
  | false => rw [if_neg Bool.false_ne_true]; exact hb F ρ1 σ B1 H1 Q L1 P1
theorem et_not {f : M Bool} (ha : ET X W a f) : ET X W (.UnaryOp .Not a pos) (mNot f) := by
  intro F ρ σ B H Q L P
  refine PT.wt (pt_not pt_wt) ?_
  exact ha F ρ σ B H _ L ((Post.bind P).imp fun k ρ1 B1 H1 e1 L1 P1 => P1 B1 H1 (Ex.refl _) L1)
def mAndV (f g : M D) : M D := M.bind f fun d => match d with
  | .bl true => g
  | .bl false => M.pure (.bl false)
  | _ => M.fail
def mOrV (f g : M D) : M D := M.bind f fun d => match d with
  | .bl true => M.pure (.bl true)
  | .bl false => g
  | _ => M.fail
def mNotV (f : M D) : M D := M.bind f fun d => match d with
  | .bl k => M.pure (.bl (!k))
  | _ => M.fail
theorem ev_one {op : BoolOp} {f : M D} (h : EV X W a f) : EV X W (.BoolOp op [a] pos) f := fun F ρ σ B H Q L P => PE.we (pe_one pe_we) (h F ρ σ B H Q L P)
theorem ev_and {rest : List Expr} {f g : M D} (ha : EV X W a f) (hb : EV X W (.BoolOp .And (b :: rest) pos) g) : EV X W (.BoolOp .And (a :: b :: rest) pos) (mAndV f g) := by
  intro F ρ σ B H Q L P
  refine PE.we (pe_and pe_we pe_we) ?_
  refine ha F ρ σ B H _ L ((Post.bind P).imp fun d ρ1 B1 H1 e1 L1 P1 v fv => ?_)
  split at P1
  · cases fv
    exact ⟨true, rfl, by rw [if_pos rfl]; exact hb F ρ1 σ B1 H1 Q L1 P1⟩
  · cases fv
    exact ⟨false, rfl, by rw [if_neg Bool.false_ne_true]; exact P1 B1 H1 (Ex.refl _) L1 _ (.bl false)⟩
  · exact P1.elim
theorem ev_or {rest : List Expr} {f g : M D} (ha : EV X W a f) (hb : EV X W (.BoolOp .Or (b :: rest) pos) g) : EV X W (.BoolOp .Or (a :: b :: rest) pos) (mOrV f g) := by
  intro F ρ σ B H Q L P
  refine PE.we (pe_or pe_we pe_we) ?_
  refine ha F ρ σ B H _ L ((Post.bind P).imp fun d ρ1 B1 H1 e1 L1 P1 v fv => ?_)
  split at P1
  · cases fv
    exact ⟨true, rfl, by rw [if_pos rfl]; exact P1 B1 H1 (Ex.refl _) L1 _ (.bl true)⟩
  · cases fv
    exact ⟨false, rfl, by rw [if_neg Bool.false_ne_true]; exact hb F ρ1 σ B1 H1 Q L1 P1⟩
  · exact P1.elim
theorem ev_not {f : M D} (ha : EV X W a f) : EV X W (.UnaryOp .Not a pos) (mNotV f) := by
  intro F ρ σ B H Q L P
  refine PE.we (pe_not pe_we) ?_
  refine ha F ρ σ B H _ L ((Post.bind P).imp fun d ρ1 B1 H1 e1 L1 P1 v fv => ?_)
  split at P1
  · rename_i k
    cases fv
    exact ⟨k, rfl, P1 B1 H1 (Ex.refl _) L1 _ (.bl _)⟩
  · exact P1.elim
def mIf {α : Type} (t : M Bool) (f g : M α) : M α := M.bind t fun k => match k with
  | true => f
  | false => g
def mChain (g g' : D → D → Option D) (f1 f2 f3 : M D) : M D := M.bind f1 fun x => M.bind f2 fun y => M.bind (M.opt (g x y)) fun z => match z with
  | .bl true => M.bind f3 fun w => M.opt (g' y w)
  | .bl false => M.pure (.bl false)
  | _ => M.fail
end
section
variable {X : Cx} {W : WX} {pos : Pos}
structure Wg (X : Cx) (tg : Expr) (v : V) (σ : St) (H : Hp) (Q : St → Hp → Prop) : Prop where
  run : ∀ (pins : List (Addr × Obj)) (s : Shared) (u : Value), Inv X pins σ H s → RelV v u → wpAny (model X.prog X.w) X.A (assign tg X.env u) (fun _ s' => ∃ σ' H', Inv X pins σ' H' s' ∧ Q σ' H') X.xe s
def wg (X : Cx) (tg : Expr) : TG := Wg X tg
theorem pg_wg {tg : Expr} : PG X tg (wg X tg) := ⟨fun pins s _ _ _ u _ I r h => Wg.run h pins s u I r⟩
theorem PG.wg {tg : Expr} {t : TG} {v : V} {σ : St} {H : Hp} {Q : St → Hp → Prop} (h : PG X tg t) (q : t v σ H Q) : wg X tg v σ H Q := Wg.mk fun pins s u I r => h.run pins s σ H v u Q I r q
structure Wgs (X : Cx) (ts : List Expr) (vs : List V) (σ : St) (H : Hp) (Q : St → Hp → Prop) : Prop where
  run : ∀ (pins : List (Addr × Obj)) (s : Shared) (us : List Value), Inv X pins σ H s → Vals vs us → wpAny (model X.prog X.w) X.A (assignInOrder ((assignEach ts X.env).map (·.2)) us) (fun _ s' => ∃ σ' H', Inv X pins σ' H' s' ∧ Q σ' H') X.xe s
def wgs (X : Cx) (ts : List Expr) : TGs := Wgs X ts
theorem pgs_wgs {ts : List Expr} : PGs X ts (wgs X ts) := ⟨fun pins s _ _ _ us _ I r h => Wgs.run h pins s us I r⟩
theorem PGs.wgs {ts : List Expr} {t : TGs} {vs : List V} {σ : St} {H : Hp} {Q : St → Hp → Prop} (h : PGs X ts t) (q : t vs σ H Q) : wgs X ts vs σ H Q := Wgs.mk fun pins s us I r => h.run pins s σ H vs us Q I r q
def Onl (is : List Nat) (σ σ' : St) : Prop := σ'.length = σ.length ∧ ∀ j, j ∉ is → σ'[j]? = σ[j]?
theorem Onl.refl (σ : St) : Onl [] σ σ := ⟨rfl, fun _ _ => rfl⟩
theorem Onl.trans {is js : List Nat} {σ σ1 σ2 : St} (a : Onl is σ σ1) (b : Onl js σ1 σ2) : Onl (is ++ js) σ σ2 :=
  ⟨b.1.trans a.1, fun j h => (b.2 j fun z => h (List.mem_append_right _ z)).trans (a.2 j fun z => h (List.mem_append_left _ z))⟩
theorem Onl.set (σ : St) (i : Nat) (v : Option V) : Onl [i] σ (σ.set i v) := ⟨List.length_set, fun j h => List.getElem?_set_ne (fun z => h (by simp [z]))⟩
def PostG (X : Cx) (F : Fr) (B : Hp) (σ : St) (is : List Nat) (r : Option Env) (Q : St → Hp → Prop) : Prop :=
  match r with
  | some ρ' => ∀ σ' B' H', Onl is σ σ' → Ex B B' → Lv X.K F ρ' σ' B' H' → Q σ' H'
  | none => False
def GV (X : Cx) (tg : Expr) (is : List Nat) (g : D → Env → Option Env) : Prop := ∀ (F : Fr) (ρ : Env) (σ : St) (B H : Hp) (v : V) (d : D) (Q : St → Hp → Prop), Lv X.K F ρ σ B H → Fz X.K B v d → PostG X F B σ is (g d ρ) Q → wg X tg v σ H Q
def GVs (X : Cx) (ts : List Expr) (is : List Nat) (g : List D → Env → Option Env) : Prop := ∀ (F : Fr) (ρ : Env) (σ : St) (B H : Hp) (vs : List V) (ds : List D) (Q : St → Hp → Prop), Lv X.K F ρ σ B H → Fzs X.K B vs ds → PostG X F B σ is (g ds ρ) Q → wgs X ts vs σ H Q
def gN (i : Nat) (d : D) (ρ : Env) : Option Env := some (ρ.set i (.fz d))
theorem gv_name {i : Nat} {x : Str} (hN : X.N.Nodup) (hi : X.N[i]? = some x := by rfl) (hx : Loc X.env.scope x := by first | exact Or.inl rfl | exact Or.inr rfl) (hf : X.fn x = true ∨ X.env.scope.names.lookup x = some .local := by first | exact .inl rfl | exact .inr rfl | assumption) : GV X (.Name x pos) [i] (gN i) := by
  intro F ρ σ B H v d Q L fv P
  refine PG.wg (pg_name hN hi hx hf) ?_
  exact P _ B H (Onl.set σ i _) (Ex.refl _) (L.store rfl fun d' z => by injection z with z; subst z; exact fv)
def gsN (ds : List D) (ρ : Env) : Option Env := match ds with
  | [] => some ρ
  | _ => none
def gsC (g : D → Env → Option Env) (gs : List D → Env → Option Env) (ds : List D) (ρ : Env) : Option Env := match ds with
  | d :: r => (g d ρ).bind (gs r)
  | [] => none
theorem gvs_nil : GVs X [] [] gsN := by
  intro F ρ σ B H vs ds Q L fs P
  refine PGs.wgs pgs_nil ?_
  cases fs with
  | nil => exact ⟨rfl, P σ B H (Onl.refl σ) (Ex.refl _) L⟩
  | cons h hs => exact P.elim
theorem gvs_cons {e : Expr} {es : List Expr} {is js : List Nat} {g : D → Env → Option Env} {gs : List D → Env → Option Env} (h1 : GV X e is g) (h2 : GVs X es js gs)
    (hs : (assignEach (e :: es) X.env).map (·.2) = assign e X.env :: (assignEach es X.env).map (·.2) := by rfl) : GVs X (e :: es) (is ++ js) (gsC g gs) := by
  intro F ρ σ B H vs ds Q L fs P
  refine PGs.wgs (pgs_cons pg_wg pgs_wgs hs) ?_
  cases fs with
  | nil => exact P.elim
  | @cons v vs d ds f fs =>
    refine ⟨v, vs, rfl, h1 F ρ σ B H v d _ L f ?_⟩
    have P' : PostG X F B σ (is ++ js) ((g d ρ).bind (gs ds)) Q := P
    cases q : g d ρ with
    | none => rw [q] at P'; exact P'.elim
    | some ρ1 =>
      rw [q] at P'
      intro σ1 B1 H1 o1 e1 L1
      refine h2 F ρ1 σ1 B1 H1 vs ds Q L1 (fs.mono e1) ?_
      have P2 : PostG X F B σ (is ++ js) (gs ds ρ1) Q := P'
      cases q2 : gs ds ρ1 with
      | none => rw [q2] at P2; exact P2.elim
      | some ρ2 => rw [q2] at P2; exact fun σ' B' H' o' e' L' => P2 σ' B' H' (o1.trans o') (e1.trans e') L'
def gT (n : Nat) (gs : List D → Env → Option Env) (d : D) (ρ : Env) : Option Env := match d with
  | .tup ds => if ds.length = n then gs ds ρ else none
  | _ => none
theorem gv_tup {es : List Expr} {k n : Nat} {is : List Nat} {gs : List D → Env → Option Env} (hc : X.calm = true) (h : GVs X es is gs) (hn : (assignEach es X.env).length = n := by rfl) (hst : (assignEach es X.env).findIdx? (·.1) = none := by rfl) : GV X (.Tuple es k pos) is (gT n gs) := by
  intro F ρ σ B H v d Q L fv P
  refine PG.wg (pg_tup hc pgs_wgs hn hst) ?_
  cases fv with
  | @tup a xs ds hs fs =>
    have P' : PostG X F B σ is (if ds.length = n then gs ds ρ else none) Q := P
    split at P'
    · rename_i hl
      exact ⟨a, xs, rfl, L.ex.st hs, by rw [fs.len]; exact hl, h F ρ σ B H xs ds Q L fs P'⟩
    · exact P'.elim
  | _ => exact P.elim
end
section
variable {X : Cx} {W : WX} {e : Expr} {pos : Pos} {st : Stmt} {rest : List Stmt}
def mSeq (f g : M Fl) : M Fl := M.bind f fun fl => match fl with
  | .nx => g
  | .bk => M.pure .bk
  | .ct => M.pure .ct
  | .rt d o => M.pure (.rt d o)
def mNx : M Fl := M.pure .nx
theorem svs_nil : SVs X W [] mNx := fun F ρ σ B H N L P => PSs.wss pss_nil (P σ B H (Ex.refl _) L)
theorem svs_cons {f g : M Fl} (h1 : SV X W st f) (h2 : SVs X W rest g) : SVs X W (st :: rest) (mSeq f g) := by
  intro F ρ σ B H N L P
  refine PSs.wss (pss_cons ps_ws pss_wss) ?_
  refine h1 F ρ σ B H _ L ?_
  have P' : PostS X W F B (M.bind f _ ρ) N := P
  unfold M.bind at P'
  cases q : f ρ with
  | ok fl ρ1 =>
    rw [q] at P'
    cases fl with
    | nx => exact fun σ' B' H' e' L' => h2 F ρ1 σ' B' H' N L' (PostS.weak P' e')
    | bk => exact P'
    | ct => exact P'
    | rt d o => exact P'
  | rz c ρ1 => rw [q] at P'; exact P'
  | fail => rw [q] at P'; exact P'
theorem svs_one {f : M Fl} (h1 : SV X W st f) : SVs X W [st] f := fun F ρ σ B H N L P => PSs.wss (pss_one ps_ws) (h1 F ρ σ B H N L P)
def Slot.of : D × Ob → Option Slot
  | (d, .ff) => some (.fz d)
  | (d, .tt) => some (.ow d)
  | (d, .dp m) => some (.dp m d)
  | (_, .al) => none
def mPut (i : Nat) (p : D × Ob) : M Fl := fun ρ => match Slot.of p with
  | some s => .ok .nx (ρ.set i s)
  | none => .fail
def mSet (i : Nat) (f : M (D × Ob)) : M Fl := M.bind f (mPut i)
theorem Lv.put {K : PySem.W.Frag} {F : Fr} {ρ : Env} {σ : St} {B H : Hp} {v : V} {p : D × Ob} {i : Nat} {s : Slot} (L : Lv K F ρ σ B H) (w : VO K F ρ σ B H v p.1 p.2) (hs : Slot.of p = some s) : Lv K F (ρ.set i s) (σ.set i (some v)) B H := by
  obtain ⟨d, o⟩ := p
  have own : ∀ {S : List Addr}, Ft K B H v s S → (∀ a ∈ S, (F.A a ∨ F.H0 a = none) ∧ ¬ OwS K B H ρ σ a) → (∀ d, s ≠ .io d) → Lv K F (ρ.set i s) (σ.set i (some v)) B H := by
    intro S f g nio
    have L1 : Lv K F (ρ.set i .un) (σ.set i (some v)) B H := L.store rfl fun d' z => nomatch z
    by_cases hi : i < ρ.length
    · have L2 := L1.own (i := i) (t := s) (v := v) (List.getElem?_set_self (by rw [← L.len]; exact hi)) f (fun a m => (g a m).1) (fun a m h => by
        rw [List.set_set] at h
        exact (g a m).2 h.store) (fun d z => absurd z (nio d))
      rw [List.set_set] at L2; exact L2
    · have e1 : ρ.set i s = ρ := List.set_eq_of_length_le (by omega)
      have e2 : σ.set i (some v) = σ := List.set_eq_of_length_le (by rw [← L.len]; omega)
      rw [e1, e2]; exact L
  cases o with
  | ff => injection hs with hs; subst hs; exact L.store rfl fun d' z => by injection z with z; subst z; exact w
  | tt =>
    injection hs with hs; subst hs
    obtain ⟨a, rfl, w, g, no⟩ := w
    exact own ⟨a, rfl, w, rfl⟩ (fun b hb => by rw [List.mem_singleton.mp hb]; exact ⟨g, no⟩) (fun d z => nomatch z)
  | dp m =>
    injection hs with hs; subst hs
    obtain ⟨S, t, nd, g⟩ := w
    exact own ⟨t, nd⟩ g (fun d z => nomatch z)
  | al => cases hs
theorem PostS.put {X : Cx} {W : WX} {F : Fr} {B : Hp} {N : Ends} {ρ : Env} {σ : St} {H : Hp} {v : V} {p : D × Ob} {i : Nat} (P : PostS X W F B (mPut i p ρ) N) (L : Lv X.K F ρ σ B H) (w : VO X.K F ρ σ B H v p.1 p.2) : N.nx (σ.set i (some v)) H := by
  unfold mPut at P
  cases q : Slot.of p with
  | none => simp only [q] at P; exact P.elim
  | some s => simp only [q] at P; exact P _ B H (Ex.refl _) (L.put w q)
theorem sv_set {i : Nat} {x : Str} {pos' : Pos} {f : M (D × Ob)} (he : EO X W e f) (hN : X.N.Nodup) (hi : X.N[i]? = some x := by rfl) (hx : Loc X.env.scope x := by first | exact Or.inl rfl | exact Or.inr rfl)
    (hs : swapsWith e (some (.Name x pos')) pos.line X.env = pure false := by rfl) (hf : X.fn x = true ∨ X.env.scope.names.lookup x = some .local := by first | exact .inl rfl | exact .inr rfl | assumption) : SV X W (.Assign [.Name x pos'] e pos) (mSet i f) := by
  intro F ρ σ B H N L P
  refine PS.ws (ps_set hN hi hx pe_we hs hf) ?_
  refine he F ρ σ B H _ L ((PostS.bind P).imp fun p ρ1 B1 H1 e1 L1 P1 v w => ?_)
  exact P1.put L1 w
def mAsg (g : D → Env → Option Env) (f : M D) : M Fl := M.bind f fun d ρ => match g d ρ with
  | some ρ' => .ok .nx ρ'
  | none => .fail
theorem sv_asg {tg : Expr} {is : List Nat} {g : D → Env → Option Env} {f : M D} (he : EV X W e f) (hg : GV X tg is g) (hs : swapsWithSole [tg] e pos.line X.env = pure false := by rfl) (hw : swappedStores [tg] e X.env = pure none := by rfl)
    (h1 : (assignEach [tg] X.env).map (·.2) = [assign tg X.env] := by rfl) : SV X W (.Assign [tg] e pos) (mAsg g f) := by
  intro F ρ σ B H N L P
  refine PS.ws (ps_asg pe_we pg_wg hs hw h1) ?_
  refine he F ρ σ B H _ L ((PostS.bind P).imp fun d ρ1 B1 H1 e1 L1 P1 v fv => ?_)
  refine hg F ρ1 σ B1 H1 v d _ L1 fv ?_
  cases q : g d ρ1 with
  | none => simp only [q] at P1; exact P1
  | some ρ2 => simp only [q] at P1; exact fun σ' B' H' _ e' L' => P1 σ' B' H' e' L'
def mPar (i j : Nat) (f : M (List D)) : M Fl := M.bind f fun ds ρ => match ds with
  | [x, y] => .ok .nx ((ρ.set i (.fz x)).set j (.fz y))
  | _ => .fail
theorem sv_par {i j : Nat} {x y : Str} {a b : Expr} {px py pt : Pos} {kt k2 : Nat} {pt2 : Pos} {f : M (List D)} (hc : X.calm = true) (hN : X.N.Nodup) (ha : EA X W [a, b] f) (hi : X.N[i]? = some x := by rfl) (hj : X.N[j]? = some y := by rfl) (hij : i ≠ j := by decide)
    (hx : X.env.scope.names.lookup x = some .local := by rfl) (hy : X.env.scope.names.lookup y = some .local := by rfl)
    (hw : swappedStores [.Tuple [.Name x px, .Name y py] kt pt] (.Tuple [a, b] k2 pt2) X.env = pure (some [x, y]) := by rfl)
    (hs : swapsWithSole [.Tuple [.Name x px, .Name y py] kt pt] (.Tuple [a, b] k2 pt2) pos.line X.env = pure false := by rfl) :
    SV X W (.Assign [.Tuple [.Name x px, .Name y py] kt pt] (.Tuple [a, b] k2 pt2) pos) (mPar i j f) := by
  intro F ρ σ B H N L P
  refine PS.ws (ps_par hc hN hi hj hij hx hy pa_wa hw hs) ?_
  refine ha F ρ σ B H _ L ((PostS.bind P).imp fun ds ρ1 B1 H1 e1 L1 P1 vs fs => ?_)
  split at P1
  · cases fs with
    | cons f1 fs =>
      cases fs with
      | cons f2 fs =>
        cases fs
        refine ⟨_, _, rfl, P1 _ B1 H1 (Ex.refl _) ?_⟩
        exact (L1.store (i := i) rfl fun d' z => by injection z with z; subst z; exact f1).store (i := j) rfl fun d' z => by injection z with z; subst z; exact f2
  · exact P1.elim
def mRet (f : M (D × Ob)) : M Fl := M.bind f fun p => M.pure (.rt p.1 p.2)
theorem sv_ret {f : M (D × Ob)} (he : EO X W e f) : SV X W (.Return (some e) pos) (mRet f) := by
  intro F ρ σ B H N L P
  refine PS.ws (ps_ret pe_we) ?_
  exact he F ρ σ B H _ L ((PostS.bind P).imp fun p ρ1 B1 H1 e1 L1 P1 v w => P1 v σ B1 H1 (Ex.refl _) L1 w)
def mDrop (f : M D) : M Fl := M.bind f fun _ => mNx
theorem sv_expr {f : M D} (he : EV X W e f) (hs : swapsWith e none pos.line X.env = pure false := by rfl) : SV X W (.Expr e pos) (mDrop f) := by
  intro F ρ σ B H N L P
  refine PS.ws (ps_expr pe_we hs) ?_
  exact he F ρ σ B H _ L ((PostS.bind P).imp fun p ρ1 B1 H1 e1 L1 P1 v w => P1 σ B1 H1 (Ex.refl _) L1)
theorem sv_if {c : Expr} {a b : List Stmt} {t : M Bool} {f g : M Fl} (hc : ET X W c t) (ha : SVs X W a f) (hb : SVs X W b g) : SV X W (.If c a b pos) (mIf t f g) := by
  intro F ρ σ B H N L P
  refine PS.ws (ps_if pt_wt pss_wss pss_wss) ?_
  refine hc F ρ σ B H _ L ((PostS.bind P).imp fun k ρ1 B1 H1 e1 L1 P1 => ?_)
  cases k with
  | true => rw [if_pos rfl]; exact ha F ρ1 σ B1 H1 N L1 P1
  | false => rw [if_neg Bool.false_ne_true]; exact hb F ρ1 σ B1 H1 N L1 P1
def mWhN (t : M Bool) (b : M Fl) : Nat → M Fl
  | 0 => M.fail
  | n + 1 => M.bind t fun k => match k with
    | false => mNx
    | true => M.bind b fun fl => match fl with
      | .nx => mWhN t b n
      | .ct => mWhN t b n
      | .bk => mNx
      | .rt d o => M.pure (.rt d o)
open Classical in
noncomputable def mWh (t : M Bool) (b : M Fl) : M Fl := fun ρ => if h : ∃ n, mWhN t b n ρ ≠ .fail then mWhN t b (choose h) ρ else .fail
theorem mWhN_up (t : M Bool) (b : M Fl) : ∀ (n : Nat) (ρ : Env), mWhN t b n ρ ≠ .fail → ∀ m, n ≤ m → mWhN t b m ρ = mWhN t b n ρ
  | 0, ρ, h, _, _ => absurd rfl h
  | n + 1, ρ, h, 0, hm => by omega
  | n + 1, ρ, h, m + 1, hm => by
    unfold mWhN M.bind at h ⊢
    cases q : t ρ with
    | ok k ρ1 =>
      simp only [q] at h ⊢
      cases k with
      | false => rfl
      | true =>
        simp only at h ⊢
        cases q2 : b ρ1 with
        | ok fl ρ2 =>
          simp only [q2] at h ⊢
          cases fl with
          | nx => exact mWhN_up t b n ρ2 h m (by omega)
          | ct => exact mWhN_up t b n ρ2 h m (by omega)
          | bk => rfl
          | rt d o => rfl
        | rz c ρ2 => rfl
        | fail => rfl
    | rz c ρ1 => rfl
    | fail => rfl
theorem mWh_eq {t : M Bool} {b : M Fl} {n : Nat} {ρ : Env} (h : mWhN t b n ρ ≠ .fail) : mWh t b ρ = mWhN t b n ρ := by
  have hx : ∃ n, mWhN t b n ρ ≠ .fail := ⟨n, h⟩
  unfold mWh
  rw [dif_pos hx]
  have h2 := Classical.choose_spec hx
  by_cases q : n ≤ Classical.choose hx
  · exact mWhN_up t b n ρ h _ q
  · exact (mWhN_up t b _ ρ h2 n (by omega)).symm
theorem sv_while {c : Expr} {body : List Stmt} {t : M Bool} {b : M Fl} (hp : PassesOwn (model X.prog X.w) X.A X.env X.xe) (hc : ET X W c t) (hb : SVs X W body b) : SV X W (.While c body [] pos) (mWh t b) := by
  intro F ρ σ B H N L P
  refine PS.ws (ps_while hp pt_wt pss_wss) ?_
  unfold mWh at P
  split at P
  · rename_i hx
    refine ⟨fun m σ' H' => ∃ ρ' B', Lv X.K F ρ' σ' B' H' ∧ PostS X W F B' (mWhN t b m ρ') N, ⟨_, ρ, B, L, P⟩, ?_⟩
    rintro m σ1 H1 ⟨ρ1, B1, L1, P1⟩
    cases m with
    | zero => exact P1.elim
    | succ n =>
      unfold mWhN at P1
      refine hc F ρ1 σ1 B1 H1 _ L1 ((PostS.bind P1).imp fun k ρ2 B2 H2 e2 L2 P2 => ?_)
      cases k with
      | false => rw [if_neg Bool.false_ne_true]; exact P2 σ1 B2 H2 (Ex.refl _) L2
      | true =>
        rw [if_pos rfl]
        refine ⟨fun σ' H' => ∃ ρ' B', Lv X.K F ρ' σ' B' H' ∧ PostS X W F B' (mWhN t b n ρ') N, fun σ' H' q => ⟨n, Nat.lt_succ_self n, q⟩, ?_⟩
        refine hb F ρ2 σ1 B2 H2 _ L2 ?_
        have P3 : PostS X W F B2 (M.bind b _ ρ2) N := P2
        unfold M.bind at P3
        cases q : b ρ2 with
        | ok fl ρ3 =>
          rw [q] at P3
          cases fl with
          | nx => exact fun σ' B' H' e' L' => ⟨ρ3, B', L', PostS.weak P3 e'⟩
          | ct => exact fun σ' B' H' e' L' => ⟨ρ3, B', L', PostS.weak P3 e'⟩
          | bk => exact P3
          | rt d o => exact P3
        | rz c ρ3 => rw [q] at P3; exact P3
        | fail => rw [q] at P3; exact P3
  · exact P.elim
end
section
variable {X : Cx} {W : WX} {tg e : Expr} {pos : Pos}
structure Wi (X : Cx) (tg iter : Expr) (σ : St) (H : Hp) (R : It → Hp → Prop) : Prop where
  run : ∀ (pins : List (Addr × Obj)) (s : Shared), Inv X pins σ H s → wpAny (model X.prog X.w) X.A (eval iter X.env) (fun v s1 => wpAny (model X.prog X.w) X.A (pyIter v) (PIE X pins σ tg R) X.xe s1) X.xe s
def wi (X : Cx) (tg iter : Expr) : TI := Wi X tg iter
theorem pi_wi : PI X tg e (wi X tg e) := ⟨fun pins s _ _ _ I h => Wi.run h pins s I⟩
theorem PI.wi {t : TI} {σ : St} {H : Hp} {R : It → Hp → Prop} (h : PI X tg e t) (q : t σ H R) : wi X tg e σ H R := Wi.mk fun pins s I => h.run pins s σ H R I q
structure ItOk (K : PySem.W.Frag) (J : It) (B : Hp) (ds : List D) : Prop where
  go : ∀ B' H' i, Ex B B' → Ex B' H' → i < ds.length → J.go i H'
  stop : ∀ B' H' i, Ex B B' → Ex B' H' → ds.length ≤ i → J.stop i H'
  yld : ∀ B' H' i x H3 d, Ex B B' → Ex B' H' → J.yld i H' x H3 → ds[i]? = some d → (H3 = H' ∧ Fz K B' x d) ∨ (∃ p o, H' p = none ∧ H3 = upd H' p o ∧ Fz K (upd B' p o) x d) ∨ ∃ p xs, H' p = some (.tup xs) ∧ B' p = none ∧ H3 = H' ∧ Fz K (upd B' p (.tup xs)) x d
def IV (X : Cx) (W : WX) (tg iter : Expr) (f : M (List D)) : Prop := ∀ (F : Fr) (ρ : Env) (σ : St) (B H : Hp) (R : It → Hp → Prop), Lv X.K F ρ σ B H →
  Post X W F σ B (f ρ) (fun ds _ B' H' => ∀ J, ItOk X.K J B' ds → R J H') → wi X tg iter σ H R
def mIter (f : M D) : M (List D) := M.bind f fun d => M.opt (match d with
  | .lst ds => some ds
  | _ => none)
theorem it_list {K : PySem.W.Frag} {a : Addr} {xs : List V} {B : Hp} {ds : List D} (h : B a = some (.lst xs)) (fs : Fzs K B xs ds) : ItOk K (Itl K a) B ds where
  go := fun B' H' i e1 e2 hi => by
    have hi' : i < xs.length := by rw [fs.len]; exact hi
    exact ⟨xs, xs[i], .inl (.inl (e2 _ _ (e1 _ _ h))), List.getElem?_eq_getElem hi'⟩
  stop := fun B' H' i e1 e2 hi => ⟨xs, .inl (.inl (e2 _ _ (e1 _ _ h))), by rw [fs.len]; exact hi⟩
  yld := fun B' H' i x H3 d e1 e2 y hd => by
    obtain ⟨hH, hx⟩ := y
    have h1 := hx xs (.inl (.inl (e2 _ _ (e1 _ _ h))))
    obtain ⟨d', hd', f⟩ := fs.getV h1
    rw [hd] at hd'; cases hd'
    exact .inl ⟨hH, f.mono e1⟩
theorem iv_list {f : M D} (he : EV X W e f) : IV X W tg e (mIter f) := by
  intro F ρ σ B H R L P
  refine PI.wi (pi_list pe_we) ?_
  refine he F ρ σ B H _ L ((Post.bind P).imp fun d ρ1 B1 H1 e1 L1 P1 v fv => ?_)
  obtain ⟨ds, hd, k⟩ := P1.opt
  cases fv with
  | @lst a xs ds' h fs =>
    injection hd with hd; subst hd
    exact ⟨a, rfl, ⟨xs, .inl (.inl (L1.ex _ _ h))⟩, k B1 H1 (Ex.refl _) L1 _ (it_list h fs)⟩
  | _ => cases hd
def rangeD (lo hi : Int) : List D := (List.range (hi - lo).toNat).map fun (i : Nat) => D.int (lo + (i : Int))
theorem rangeD_len (lo hi : Int) : (rangeD lo hi).length = (hi - lo).toNat := by unfold rangeD; rw [List.length_map, List.length_range]
theorem it_range {K : PySem.W.Frag} {B : Hp} (lo hi : Int) : ItOk K (Itr lo (hi - lo).toNat) B (rangeD lo hi) where
  go := fun B' H' i e1 e2 h => by rw [rangeD_len] at h; exact h
  stop := fun B' H' i e1 e2 h => by rw [rangeD_len] at h; exact h
  yld := fun B' H' i x H3 d e1 e2 y hd => by
    obtain ⟨hH, hx⟩ := y
    unfold rangeD at hd
    rw [List.getElem?_map] at hd
    cases q : (List.range (hi - lo).toNat)[i]? with
    | none => rw [q] at hd; cases hd
    | some j =>
      rw [q] at hd
      obtain ⟨h1, h2⟩ := List.getElem?_eq_some_iff.mp q
      rw [List.getElem_range] at h2
      injection hd with hd
      subst hd; subst h2
      exact .inl ⟨hH, by rw [hx]; exact .int _⟩
def mRange1 (f : M (List D)) : M (List D) := M.bind f fun ds => M.opt (match ds with
  | [.int j] => if -100000000 < j ∧ j < 100000000 then some (rangeD 0 j) else none
  | _ => none)
def mRange2 (f : M (List D)) : M (List D) := M.bind f fun ds => M.opt (match ds with
  | [.int i, .int j] => if (-100000000 < i ∧ i < 100000000) ∧ (-100000000 < j ∧ j < 100000000) then some (rangeD i j) else none
  | _ => none)
theorem iv_range1 {a : Expr} {p : Pos} {f : M (List D)} (hg : Gl X "range") (hm : X.mg "range" = none) (ha : EA X W [a] f) (hs : starEach [a] X.env = [(false, eval a X.env)] := by rfl) : IV X W tg (.Call (.Name "range" p) [a] [] pos) (mRange1 f) := by
  intro F ρ σ B H R L P
  refine PI.wi (pi_range1 hg hm pa_wa hs) ?_
  refine ha F ρ σ B H _ L ((Post.bind P).imp fun ds ρ1 B1 H1 e1 L1 P1 vs fs => ?_)
  obtain ⟨xs, hd, k⟩ := P1.opt
  split at hd
  · rename_i j
    cases fs with
    | cons f1 fs =>
      cases fs
      cases f1
      split at hd
      · rename_i hj
        injection hd with hd; subst hd
        refine ⟨j, rfl, by omega, by omega, ?_⟩
        have := k B1 H1 (Ex.refl _) L1 (Itr 0 j.toNat) (by have q := it_range (K := X.K) (B := B1) 0 j; rw [show j - 0 = j by omega] at q; exact q)
        exact this
      · cases hd
  · cases hd
def mForL (g : D → Env → Option Env) (b : M Fl) : List D → M Fl
  | [] => mNx
  | d :: r => fun ρ => match g d ρ with
    | none => .fail
    | some ρ1 => M.bind b (fun fl => match fl with
      | .nx => mForL g b r
      | .ct => mForL g b r
      | .bk => mNx
      | .rt d o => M.pure (.rt d o)) ρ1
def mFor (f : M (List D)) (g : D → Env → Option Env) (b : M Fl) : M Fl := M.bind f (mForL g b)
theorem sv_for {iter : Expr} {body : List Stmt} {is : List Nat} {f : M (List D)} {g : D → Env → Option Env} {b : M Fl} (hp : PassesOwn (model X.prog X.w) X.A X.env X.xe) (hc : X.calm = true) (hi : IV X W tg iter f) (hg : GV X tg is g) (hb : SVs X W body b)
    (hs : ∀ x, foldedSetIterable iter X.env x = pure x := by intro _; rfl) : SV X W (.For tg iter body [] pos) (mFor f g b) := by
  intro F ρ σ B H N L P
  refine PS.ws (ps_for hp hc pi_wi pg_wg pss_wss hs) ?_
  refine hi F ρ σ B H _ L ((PostS.bind P).imp fun ds ρ1 B1 H1 e1 L1 P1 J hJ => ?_)
  refine ⟨fun i m σ' H' => m = ds.length - i ∧ i ≤ ds.length ∧ ∃ ρ' B', Lv X.K F ρ' σ' B' H' ∧ Ex B1 B' ∧ PostS X W F B' (mForL g b (ds.drop i) ρ') N, ⟨ds.length, by simp, Nat.zero_le _, ρ1, B1, L1, Ex.refl _, P1⟩, ?_⟩
  rintro i m σ2 H2 ⟨rfl, hi2, ρ2, B2, L2, e2, P2⟩
  by_cases hlt : i < ds.length
  · refine .inr ⟨hJ.go B2 H2 i e2 L2.ex hlt, fun σ' H' => ∃ ρ' B', Lv X.K F ρ' σ' B' H' ∧ Ex B1 B' ∧ PostS X W F B' (mForL g b (ds.drop (i + 1)) ρ') N, fun σ' H' q => ⟨ds.length - (i + 1), by omega, rfl, hlt, q⟩, fun x H3 hy => ?_⟩
    rw [List.drop_eq_getElem_cons hlt] at P2
    have hd : ds[i]? = some ds[i] := List.getElem?_eq_getElem hlt
    have fin : ∀ (B3 : Hp), Ex B2 B3 → Lv X.K F ρ2 σ2 B3 H3 → Fz X.K B3 x ds[i] → wg X tg x σ2 H3 (fun σ3 H4 => wss X body { nx := fun σ' H' => ∃ ρ' B', Lv X.K F ρ' σ' B' H' ∧ Ex B1 B' ∧ PostS X W F B' (mForL g b (ds.drop (i + 1)) ρ') N, rt := N.rt, bk := N.nx, ct := fun σ' H' => ∃ ρ' B', Lv X.K F ρ' σ' B' H' ∧ Ex B1 B' ∧ PostS X W F B' (mForL g b (ds.drop (i + 1)) ρ') N } σ3 H4) := by
      intro B3 e3 L3 fx
      refine hg F ρ2 σ2 B3 H3 x ds[i] _ L3 fx ?_
      have P3 : PostS X W F B2 (match g ds[i] ρ2 with | none => .fail | some ρ1 => M.bind b (fun fl => match fl with | .nx => mForL g b (ds.drop (i + 1)) | .ct => mForL g b (ds.drop (i + 1)) | .bk => mNx | .rt d o => M.pure (.rt d o)) ρ1) N := P2
      cases q : g ds[i] ρ2 with
      | none => rw [q] at P3; exact P3.elim
      | some ρ3 =>
        rw [q] at P3
        intro σ4 B4 H4 _ e4 L4
        refine hb F ρ3 σ4 B4 H4 _ L4 ?_
        have P4 := PostS.weak P3 (e3.trans e4)
        have P5 : PostS X W F B4 (M.bind b _ ρ3) N := P4
        unfold M.bind at P5
        cases q2 : b ρ3 with
        | ok fl ρ4 =>
          rw [q2] at P5
          cases fl with
          | nx => exact fun σ' B' H' e' L' => ⟨ρ4, B', L', ((e2.trans e3).trans e4).trans e', PostS.weak P5 e'⟩
          | ct => exact fun σ' B' H' e' L' => ⟨ρ4, B', L', ((e2.trans e3).trans e4).trans e', PostS.weak P5 e'⟩
          | bk => exact P5
          | rt d o => exact P5
        | rz c ρ4 => rw [q2] at P5; exact P5
        | fail => rw [q2] at P5; exact P5
    rcases hJ.yld B2 H2 i x H3 _ e2 L2.ex hy hd with ⟨rfl, fx⟩ | ⟨p, o, hp2, rfl, fx⟩ | ⟨p, xs, hp2, hp3, rfl, fx⟩
    · exact fin B2 (Ex.refl _) L2 fx
    · exact fin _ (Ex.new (L2.ex.nn hp2)) (L2.alloc hp2) fx
    · exact fin _ (Ex.new hp3) (L2.freezeT hp2 hp3) fx
  · have e : i = ds.length := by omega
    subst e
    rw [List.drop_length] at P2
    exact .inl ⟨hJ.stop B2 H2 _ e2 L2.ex (Nat.le_refl _), P2 σ2 B2 H2 (Ex.refl _) L2⟩
end
end Dt
namespace Dt
open PySem PySem.Spec PyProof.Rows L2
section
variable {X : Cx} {K : PySem.W.Frag}
def iI (C : Int → Int → Bool) (f : Int → Int → Int) : D → D → Option D
  | .int i, .int j => if C i j = true then some (.int (f i j)) else none
  | _, _ => none
def iB (f : Int → Int → Bool) : D → D → Option D
  | .int i, .int j => some (.bl (f i j))
  | _, _ => none
theorem opd_I {C : Int → Int → Prop} {c : Int → Int → Bool} {f : Int → Int → Int} (hc : ∀ i j, c i j = true → C i j) : OpD K (rI C fun i j => .int (f i j)) (iI c f) := by
  intro x y dx dy d B H Q ex fx fy h g
  unfold iI at h
  split at h
  · cases fx; cases fy
    split at h
    · rename_i hh
      injection h with h; subst h
      exact ⟨_, _, rfl, rfl, hc _ _ hh, g.1 _ (.int _)⟩
    · cases h
  · cases h
theorem opd_I0 {f : Int → Int → Int} : OpD K (rI0 fun i j => .int (f i j)) (iI (fun _ _ => true) f) := by
  intro x y dx dy d B H Q ex fx fy h g
  unfold iI at h
  split at h
  · cases fx; cases fy
    rw [if_pos rfl] at h
    injection h with h; subst h
    exact ⟨_, _, rfl, rfl, g.1 _ (.int _)⟩
  · cases h
theorem opd_B {f : Int → Int → Bool} : OpD K (rI0 fun i j => .bl (f i j)) (iB f) := by
  intro x y dx dy d B H Q ex fx fy h g
  unfold iB at h
  split at h
  · cases fx; cases fy
    injection h with h; subst h
    exact ⟨_, _, rfl, rfl, g.1 _ (.bl _)⟩
  · cases h
def mulOk (i j : Int) : Bool := decide (i.natAbs.log2 + j.natAbs.log2 < 100000000)
theorem mulOk_ok {i j : Int} (h : mulOk i j = true) : IntMulOk i j := by
  have b : ∀ x : Int, Builtin.Int.intBits x ≤ x.natAbs.log2 + 1 := fun x => by
    unfold Builtin.Int.intBits
    split <;> omega
  have h1 := b i
  have h2 := b j
  have h3 : i.natAbs.log2 + j.natAbs.log2 < 100000000 := of_decide_eq_true h
  have e : bitsLine = 134217728 := by decide
  unfold IntMulOk
  intro z
  rw [Bool.and_eq_true] at z
  have z2 := z.2
  unfold Builtin.Int.intTooBig at z2
  have z3 := of_decide_eq_true z2
  rw [e] at z3
  omega
theorem op_mulB : OpR X (binaryOp .Mult) (rI (fun i j => mulOk i j = true) fun i j => .int (i * j)) := opI fun _ _ _ _ _ _ _ hc q => mul_int q (mulOk_ok hc)
def divOk (_ j : Int) : Bool := decide (j ≠ 0)
def modOk (_ j : Int) : Bool := decide (j ≠ 0)
theorem op_modB : OpR X (binaryOp .Mod) (rI (fun i j => modOk i j = true) fun i j => .int (i.fmod j)) := opI fun _ _ _ _ _ _ _ hc q => mod_int' (of_decide_eq_true hc) q
def powOk (i j : Int) : Bool := decide (0 ≤ j) && decide (j ≤ 1000) && decide (i.natAbs < 2 ^ 64)
theorem op_powB : OpR X (binaryOp .Pow) (rI (fun i j => powOk i j = true) fun i j => .int (i ^ j.toNat)) := opI fun _ _ _ _ _ _ _ hc q => by
  unfold powOk at hc
  rw [Bool.and_eq_true, Bool.and_eq_true] at hc
  have h1 := of_decide_eq_true hc.1.1
  have h2 := of_decide_eq_true hc.1.2
  have h3 := of_decide_eq_true hc.2
  exact pow_int_small h1 (by omega) h3 q
def dSub : D → D → Option D := iI (fun _ _ => true) fun i j => i - j
def dDiv : D → D → Option D := iI divOk fun i j => i.fdiv j
def dMod : D → D → Option D := iI modOk fun i j => i.fmod j
def dPow : D → D → Option D := iI powOk fun i j => i ^ j.toNat
def dLt : D → D → Option D := iB fun i j => decide (i < j)
def dLe : D → D → Option D := iB fun i j => decide (i ≤ j)
def dGt : D → D → Option D := iB fun i j => decide (j < i)
def dGe : D → D → Option D := iB fun i j => decide (j ≤ i)
variable {W : WX} {e a b c : Expr} {pos : Pos} {f1 f2 f3 : M D}
theorem ev_sub (ha : EV X W a f1) (hb : EV X W b f2) : EV X W (.BinOp a .Sub b pos) (mBin dSub f1 f2) := ev_op op_sub opd_I0 ha hb
theorem ev_mod (ha : EV X W a f1) (hb : EV X W b f2) : EV X W (.BinOp a .Mod b pos) (mBin dMod f1 f2) := ev_op op_modB (opd_I fun _ _ h => h) ha hb
theorem ev_pow (ha : EV X W a f1) (hb : EV X W b f2) : EV X W (.BinOp a .Pow b pos) (mBin dPow f1 f2) := ev_op op_powB (opd_I fun _ _ h => h) ha hb
theorem ev_lt (ha : EV X W a f1) (hb : EV X W b f2) : EV X W (.Compare a [.Lt] [b] pos) (mBin dLt f1 f2) := ev_cmp op_lt opd_B ha hb
theorem ev_le (ha : EV X W a f1) (hb : EV X W b f2) : EV X W (.Compare a [.LtE] [b] pos) (mBin dLe f1 f2) := ev_cmp op_le opd_B ha hb
theorem ev_gt (ha : EV X W a f1) (hb : EV X W b f2) : EV X W (.Compare a [.Gt] [b] pos) (mBin dGt f1 f2) := ev_cmp op_gt opd_B ha hb
theorem ev_ge (ha : EV X W a f1) (hb : EV X W b f2) : EV X W (.Compare a [.GtE] [b] pos) (mBin dGe f1 f2) := ev_cmp op_ge opd_B ha hb
theorem et_lt (ha : EV X W a f1) (hb : EV X W b f2) : ET X W (.Compare a [.Lt] [b] pos) (mTest (mBin dLt f1 f2)) := et_cmp op_lt opd_B ha hb
theorem et_gt (ha : EV X W a f1) (hb : EV X W b f2) : ET X W (.Compare a [.Gt] [b] pos) (mTest (mBin dGt f1 f2)) := et_cmp op_gt opd_B ha hb
def dNeg : D → Option D
  | .int i => some (.int (-i))
  | _ => none
theorem ev_neg (ha : EV X W a f1) : EV X W (.UnaryOp .USub a pos) (mUn dNeg f1) := ev_un un_neg (fun x dx d B H Q ex fx h g => by
  cases fx with
  | int i => injection h with h; subst h; exact ⟨i, rfl, g.1 _ (.int _)⟩
  | _ => cases h) ha
def tooLong (n : Nat) : Bool := decide (10000000 < n)
def dAdd : D → D → Option D
  | .int i, .int j => some (.int (i + j))
  | .str x, .str y => if tooLong (x.length + y.length) = true then none else some (.str (x ++ y))
  | .lst xs, .lst ys => if tooLong (xs.length + ys.length) = true then none else some (.lst (xs ++ ys))
  | .tup xs, .tup ys => if tooLong (xs.length + ys.length) = true then none else some (.tup (xs ++ ys))
  | _, _ => none
theorem notLong {n : Nat} (h : ¬ tooLong n = true) : n ≤ sizeLine := by
  have h1 : n ≤ 10000000 := by
    unfold tooLong at h
    rw [decide_eq_true_iff] at h
    omega
  exact Nat.le_trans h1 (by decide)
theorem len_line' {n : Nat} (h : n ≤ 10000000) : n ≤ sizeLine := Nat.le_trans h (by decide)
theorem ev_add (ha : EV X W a f1) (hb : EV X W b f2) : EV X W (.BinOp a .Add b pos) (mBin dAdd f1 f2) := by
  refine ev_op (((op_add.or op_add_str).or op_catA).or op_cat) (fun x y dx dy d B H Q ex fx fy h g => ?_) ha hb
  cases fx with
  | int i =>
    cases fy with
    | int j => injection h with h; subst h; exact .inl (.inl (.inl ⟨i, j, rfl, rfl, g.1 _ (.int _)⟩))
    | _ => cases h
  | str x =>
    cases fy with
    | str y =>
      have h' : (if tooLong (x.length + y.length) = true then none else some (D.str (x ++ y))) = some d := h
      split at h'
      · cases h'
      · rename_i hl
        injection h' with h'; subst h'
        exact .inl (.inl (.inr ⟨x, y, rfl, rfl, notLong hl, g.1 _ (.str _)⟩))
    | _ => cases h
  | @lst l xs ds hl fs =>
    cases fy with
    | @lst l2 ys es hl2 fs2 =>
      have h' : (if tooLong (ds.length + es.length) = true then none else some (D.lst (ds ++ es))) = some d := h
      split at h'
      · cases h'
      · rename_i hz
        injection h' with h'; subst h'
        refine .inr ⟨l, l2, xs, ys, rfl, rfl, ex _ _ hl, ex _ _ hl2, by rw [fs.len, fs2.len]; exact notLong hz, fun p hp => g.2 p _ _ hp (.lst upd_same ?_)⟩
        exact (fs.append fs2).mono (Ex.new (ex.nn hp))
    | _ => cases h
  | @tup l xs ds hl fs =>
    cases fy with
    | @tup l2 ys es hl2 fs2 =>
      have h' : (if tooLong (ds.length + es.length) = true then none else some (D.tup (ds ++ es))) = some d := h
      split at h'
      · cases h'
      · rename_i hz
        injection h' with h'; subst h'
        refine .inl (.inr ⟨l, l2, xs, ys, rfl, rfl, ex.st hl, ex.st hl2, by rw [fs.len, fs2.len]; exact notLong hz, fun z => ?_, fun _ z => ?_, fun _ _ p hp => g.2 p _ _ hp (.tup (.inl (.inl upd_same)) ((fs.append fs2).mono (Ex.new (ex.nn hp))))⟩)
        · subst z; cases fs; exact g.1 _ (.tup hl2 fs2)
        · subst z; cases fs2
          rw [List.append_nil] at g
          exact g.1 _ (.tup hl fs)
    | _ => cases h
  | _ => cases h
def dMul : D → D → Option D
  | .int i, .int j => if mulOk i j = true then some (.int (i * j)) else none
  | .lst xs, .int k => if k < 10000 ∧ -10000 < k ∧ xs.length ≤ 1000 then some (.lst (List.replicate k.toNat xs).flatten) else none
  | _, _ => none
theorem Fzs.rep {K : PySem.W.Frag} {B : Hp} {vs : List V} {ds : List D} (h : Fzs K B vs ds) : ∀ k : Nat, Fzs K B (List.replicate k vs).flatten (List.replicate k ds).flatten
  | 0 => .nil
  | k + 1 => by
    rw [List.replicate_succ, List.replicate_succ, List.flatten_cons, List.flatten_cons]
    exact Fzs.append h (Fzs.rep h k)
theorem ev_mul (ha : EV X W a f1) (hb : EV X W b f2) : EV X W (.BinOp a .Mult b pos) (mBin dMul f1 f2) := by
  refine ev_op (op_mulB.or op_rep) (fun x y dx dy d B H Q ex fx fy h g => ?_) ha hb
  cases fx with
  | int i =>
    cases fy with
    | int j =>
      have h' : (if mulOk i j = true then some (D.int (i * j)) else none) = some d := h
      split at h'
      · rename_i hm
        injection h' with h'; subst h'; exact .inl ⟨i, j, rfl, rfl, hm, g.1 _ (.int _)⟩
      · cases h'
    | _ => cases h
  | @lst l xs ds hl fs =>
    cases fy with
    | int k =>
      have h' : (if k < 10000 ∧ -10000 < k ∧ ds.length ≤ 1000 then some (D.lst (List.replicate k.toNat ds).flatten) else none) = some d := h
      split at h'
      · rename_i hk
        injection h' with h'; subst h'
        refine .inr ⟨l, k, xs, rfl, rfl, ex _ _ hl, by omega, by omega, ?_, fun p hp => g.2 p _ _ hp (.lst upd_same ((fs.rep k.toNat).mono (Ex.new (ex.nn hp))))⟩
        have h1 : xs.length ≤ 1000 := by rw [fs.len]; exact hk.2.2
        have h2 : k.toNat ≤ 10000 := by omega
        exact len_line' (Nat.le_trans (Nat.mul_le_mul h1 h2) (by decide))
      · cases h'
    | _ => cases h
  | _ => cases h
def shp (d : D) : Bool := SeqAt.shaped d.py
def dEq : D → D → Option D
  | .int i, .int j => some (.bl (i == j))
  | .str i, .str j => some (.bl (i == j))
  | d, e => if shp d = true ∧ shp e = true then some (.bl (PyData.eqv d.py e.py)) else none
def dNe : D → D → Option D
  | .int i, .int j => some (.bl (!(i == j)))
  | .str i, .str j => some (.bl (!(i == j)))
  | d, e => if shp d = true ∧ shp e = true then some (.bl (!PyData.eqv d.py e.py)) else none
theorem opd_eq : OpD K (fun x y H Q => rEq x y H Q ∨ rEqD K x y H Q) dEq := by
  intro x y dx dy d B H Q ex fx fy h g
  unfold dEq at h
  split at h
  · cases fx; cases fy
    injection h with h; subst h
    exact .inl ⟨rfl, by rw [dec_int]; exact g.1 _ (.bl _)⟩
  · cases fx; cases fy
    injection h with h; subst h
    exact .inl ⟨rfl, by rw [dec_str]; exact g.1 _ (.bl _)⟩
  · split at h
    · rename_i hh
      injection h with h; subst h
      exact .inr ⟨_, _, fx.dp ex (D.nd_lay (SeqAt.canLay_of_shaped hh.1)), fy.dp ex (D.nd_lay (SeqAt.canLay_of_shaped hh.2)), hh.1, hh.2, g.1 _ (.bl _)⟩
    · cases h
theorem opd_ne : OpD K (fun x y H Q => rNe x y H Q ∨ rNeD K x y H Q) dNe := by
  intro x y dx dy d B H Q ex fx fy h g
  unfold dNe at h
  split at h
  · cases fx; cases fy
    injection h with h; subst h
    exact .inl ⟨rfl, by rw [dec_int]; exact g.1 _ (.bl _)⟩
  · cases fx; cases fy
    injection h with h; subst h
    exact .inl ⟨rfl, by rw [dec_str]; exact g.1 _ (.bl _)⟩
  · split at h
    · rename_i hh
      injection h with h; subst h
      exact .inr ⟨_, _, fx.dp ex (D.nd_lay (SeqAt.canLay_of_shaped hh.1)), fy.dp ex (D.nd_lay (SeqAt.canLay_of_shaped hh.2)), hh.1, hh.2, g.1 _ (.bl _)⟩
    · cases h
theorem ev_eq (hu : X.A.units + 64 < cLine) (ha : EV X W a f1) (hb : EV X W b f2) : EV X W (.Compare a [.Eq] [b] pos) (mBin dEq f1 f2) := ev_cmp (op_eq.or (op_eqD hu)) opd_eq ha hb
theorem et_eq (hu : X.A.units + 64 < cLine) (ha : EV X W a f1) (hb : EV X W b f2) : ET X W (.Compare a [.Eq] [b] pos) (mTest (mBin dEq f1 f2)) := et_cmp (op_eq.or (op_eqD hu)) opd_eq ha hb
theorem ev_ne (hu : X.A.units + 64 < cLine) (ha : EV X W a f1) (hb : EV X W b f2) : EV X W (.Compare a [.NotEq] [b] pos) (mBin dNe f1 f2) := ev_cmp (op_ne.or (op_neD hu)) opd_ne ha hb
theorem et_ne (hu : X.A.units + 64 < cLine) (ha : EV X W a f1) (hb : EV X W b f2) : ET X W (.Compare a [.NotEq] [b] pos) (mTest (mBin dNe f1 f2)) := et_cmp (op_ne.or (op_neD hu)) opd_ne ha hb
def dIs : D → D → Option D
  | .bl i, .bl j => some (.bl (decide (i = j)))
  | .non, .non => some (.bl true)
  | .lst _, .non => some (.bl false)
  | .tup _, .non => some (.bl false)
  | .int _, .non => some (.bl false)
  | .str _, .non => some (.bl false)
  | .key _, .non => some (.bl false)
  | _, _ => none
def dIsNot : D → D → Option D
  | .bl i, .bl j => some (.bl (!decide (i = j)))
  | .non, .non => some (.bl false)
  | .lst _, .non => some (.bl true)
  | .tup _, .non => some (.bl true)
  | .int _, .non => some (.bl true)
  | .str _, .non => some (.bl true)
  | .key _, .non => some (.bl true)
  | _, _ => none
def flatD : D → Bool
  | .non => true
  | .bl _ => true
  | .int _ => true
  | .str _ => true
  | _ => false
def eqF : D → D → Bool
  | .non, .non => true
  | .bl a, .bl b => a == b
  | .bl a, .int b => (if a then 1 else 0) == b
  | .int a, .bl b => a == (if b then 1 else 0)
  | .int a, .int b => a == b
  | .str a, .str b => a == b
  | _, _ => false
theorem Fz.flat {K : PySem.W.Frag} {B : Hp} {v : V} {d : D} (h : Fz K B v d) (f : flatD d = true) : flatV v = true := by
  cases h <;> first | rfl | cases f
theorem Fz.eqF {K : PySem.W.Frag} {B : Hp} {v w : V} {d e : D} (h : Fz K B v d) (g : Fz K B w e) (f : flatD d = true) (f' : flatD e = true) : eqV v w = eqF d e := by
  cases h <;> cases g <;> first | rfl | (exfalso; exact Bool.false_ne_true f) | (exfalso; exact Bool.false_ne_true f')
theorem Fzs.flat {K : PySem.W.Frag} {B : Hp} : ∀ {vs : List V} {ds : List D}, Fzs K B vs ds → ds.all flatD = true → vs.all flatV = true
  | _, _, .nil, _ => rfl
  | _, _, .cons h hs, f => by
    rw [List.all_cons, Bool.and_eq_true] at f ⊢
    exact ⟨h.flat f.1, Fzs.flat hs f.2⟩
theorem Fzs.inF {K : PySem.W.Frag} {B : Hp} {x : V} {dx : D} (fx : Fz K B x dx) (hx : flatD dx = true) : ∀ {vs : List V} {ds : List D}, Fzs K B vs ds → ds.all flatD = true → inV x vs = ds.any (fun y => Dt.eqF y dx)
  | _, _, .nil, _ => rfl
  | _, _, .cons h hs, f => by
    rw [List.all_cons, Bool.and_eq_true] at f
    have ih := Fzs.inF fx hx hs f.2
    unfold inV at ih ⊢
    rw [List.any_cons, List.any_cons, ih, h.eqF fx f.1 hx]
def dIn (neg : Bool) : D → D → Option D := fun x s => match s with
  | .lst ds => if flatD x = true ∧ ds.all flatD = true then some (.bl (if neg then !ds.any (fun y => eqF y x) else ds.any (fun y => eqF y x))) else none
  | .tup ds => if flatD x = true ∧ ds.all flatD = true then some (.bl (if neg then !ds.any (fun y => eqF y x) else ds.any (fun y => eqF y x))) else none
  | _ => none
theorem opd_in {neg : Bool} : OpD K (rIn K neg) (dIn neg) := by
  intro x y dx dy d B H Q ex fx fy h g
  cases fy with
  | @lst l ys ds hl fs =>
    have h' : (if flatD dx = true ∧ ds.all flatD = true then some (D.bl (if neg then !ds.any (fun y => eqF y dx) else ds.any (fun y => eqF y dx))) else none) = some d := h
    split at h'
    · rename_i hh
      injection h' with h'; subst h'
      refine ⟨l, ys, rfl, .inl (.inl (.inl (ex _ _ hl))), fx.flat hh.1, fs.flat hh.2, ?_⟩
      rw [fs.inF fx hh.1 hh.2]
      exact g.1 _ (.bl _)
    · cases h'
  | @tup l ys ds hl fs =>
    have h' : (if flatD dx = true ∧ ds.all flatD = true then some (D.bl (if neg then !ds.any (fun y => eqF y dx) else ds.any (fun y => eqF y dx))) else none) = some d := h
    split at h'
    · rename_i hh
      injection h' with h'; subst h'
      refine ⟨l, ys, rfl, .inr (ex.st hl), fx.flat hh.1, fs.flat hh.2, ?_⟩
      rw [fs.inF fx hh.1 hh.2]
      exact g.1 _ (.bl _)
    · cases h'
  | _ => cases h
theorem ev_in (ha : EV X W a f1) (hb : EV X W b f2) (hm : behindInMarks .In b = false := by rfl) : EV X W (.Compare a [.In] [b] pos) (mBin (dIn false) f1 f2) := ev_cmp op_in_seq opd_in ha hb hm
theorem et_notin (ha : EV X W a f1) (hb : EV X W b f2) (hm : behindInMarks .NotIn b = false := by rfl) : ET X W (.Compare a [.NotIn] [b] pos) (mTest (mBin (dIn true) f1 f2)) := et_cmp op_notIn_seq opd_in ha hb hm
def dIx : D → D → Option D
  | .lst ds, .int i => atI ds i
  | .tup ds, .int i => atI ds i
  | .scr ns, .int i => (atI ns i).map D.int
  | .str x, .int i => if tooLong x.length = true then none else (atI x.cps.toList i).map fun c => D.str ⟨#[c]⟩
  | _, _ => none
theorem Fzs.atI {K : PySem.W.Frag} {B : Hp} {vs : List V} {ds : List D} {i : Int} {d : D} (h : Fzs K B vs ds) (e : L2.atI ds i = some d) : ∃ v, L2.atI vs i = some v ∧ Fz K B v d := by
  unfold L2.atI at e ⊢
  rw [h.len]
  cases q : ixN ds.length i with
  | none => rw [q] at e; cases e
  | some j =>
    rw [q] at e
    exact h.get e
theorem opd_ix : OpD K (rIx K) dIx := by
  intro x y dx dy d B H Q ex fx fy h g
  cases fx with
  | @lst l xs ds hl fs =>
    cases fy with
    | int i =>
      obtain ⟨v, h1, h2⟩ := fs.atI (show L2.atI ds i = some d from h)
      exact .inl ⟨l, xs, i, v, rfl, rfl, .inl (.inl (ex _ _ hl)), h1, g.1 _ h2⟩
    | _ => cases h
  | @tup l xs ds hl fs =>
    cases fy with
    | int i =>
      obtain ⟨v, h1, h2⟩ := fs.atI (show L2.atI ds i = some d from h)
      exact .inr (.inl ⟨l, xs, i, v, rfl, rfl, ex.st hl, h1, g.1 _ h2⟩)
    | _ => cases h
  | @scr l ns hl =>
    cases fy with
    | int i =>
      have h' : (L2.atI ns i).map D.int = some d := h
      cases q : L2.atI ns i with
      | none => rw [q] at h'; cases h'
      | some n =>
        rw [q] at h'
        injection h' with h'; subst h'
        refine .inl ⟨l, ns.map V.int, i, .int n, rfl, rfl, ex.sl hl, ?_, g.1 _ (.int n)⟩
        unfold L2.atI at q ⊢
        rw [List.length_map]
        cases q2 : ixN ns.length i with
        | none => rw [q2] at q; cases q
        | some j =>
          rw [q2] at q
          have q' : ns[j]? = some n := q
          show (ns.map V.int)[j]? = some (V.int n)
          rw [List.getElem?_map, q']; rfl
    | _ => cases h
  | str x =>
    cases fy with
    | int i =>
      have h' : (if tooLong x.length = true then none else (L2.atI x.cps.toList i).map fun c => D.str ⟨#[c]⟩) = some d := h
      split at h'
      · cases h'
      · rename_i hz
        cases q : L2.atI x.cps.toList i with
        | none => rw [q] at h'; cases h'
        | some c =>
          rw [q] at h'
          injection h' with h'; subst h'
          exact .inr (.inr ⟨x, i, c, rfl, rfl, notLong hz, q, g.1 _ (.str _)⟩)
    | _ => cases h
  | _ => cases h
theorem ev_item (ha : EV X W a f1) (hb : EV X W b f2) (hs : PlainIx b := by exact fun _ _ => rfl) : EV X W (.Subscript a b pos) (mBin dIx f1 f2) := ev_ix ix_seq opd_ix ha hb hs
end
end Dt
namespace Dt
open PySem PySem.Spec PyProof.Rows L2
structure Quiet0 (P : Program) (base : Heap) (A : Around) : Prop where
  g : A.guards = some []
  s : base.NoSeer
  t : P.given.tree = none
structure Quiet (P : Program) (base : Heap) (A : Around) : Prop extends Quiet0 P base A where
  f : ∃ env l, A.frames = some (env :: l) ∧ env.scope.isGenerator = false ∧ env.scope.isCoroutine = false ∧ env.builtins = builtinsNs ∧ env.globals = mainGlobals
theorem op_fdivB {X : Cx} {k : Nat} (gd : Quiet X.prog X.base X.A) (hr : Room k X.A) (hk : 32 ≤ k) : OpR X (binaryOp .FloorDiv) (rI (fun i j => divOk i j = true) fun i j => .int (i.fdiv j)) := by
  intro pins s σ H x y v u Q I rx ry h
  obtain ⟨i, j, rfl, rfl, hc, q⟩ := h
  obtain ⟨t, rfl⟩ := rx
  obtain ⟨t', rfl⟩ := ry
  obtain ⟨env, l, f1, f2, f3, f4, f5⟩ := gd.f
  have hd := hr.dp
  exact floordiv_int (of_decide_eq_true hc) ⟨.int (i.fdiv j), H, I.tok _, ⟨_, rfl⟩, q⟩ (.inr (PySem.PylongRoom.of I.nolimit (by show X.A.depth + 100 < _; omega) (PySem.SeerAt.of (gd.s.keeps I.bk) gd.t f1 f2 f3 f4 f5)))
theorem ev_fdiv {X : Cx} {W : WX} {k : Nat} {a b : Expr} {pos : Pos} {f1 f2 : M D} (gd : Quiet X.prog X.base X.A) (hr : Room k X.A) (hk : 32 ≤ k) (ha : EV X W a f1) (hb : EV X W b f2) : EV X W (.BinOp a .FloorDiv b pos) (mBin dDiv f1 f2) := ev_op (op_fdivB gd hr hk) (opd_I fun _ _ h => h) ha hb
structure FnG (P : Program) (w : World) (K : PySem.W.Frag) (mg : Str → Option Value) (base : Heap) (k : Nat) (f : Addr) (fd : FuncData) (ps : List Str) (sp : Sp) : Prop where
  many : ∀ vs H Q E, sp vs H Q E → vs.length = ps.length
  go : ∀ {A : Around} {o : List PySem.Env} {s : Shared} {H : Hp} {g : Args} {us : List Value} {vs : List V} {Q : VK} {E : XK}, Quiet0 P base A → Room k A → Env0 P w K mg base A o s H →
    BindsTo s fd g (ps.zip us) → Vals vs us → sp vs H Q E → codeAny (model P w) A (.call (.ref f) g) (CR (L2.CX P w) o P w H s Q E) s
theorem FnG.imp {P : Program} {w : World} {K : PySem.W.Frag} {mg : Str → Option Value} {base : Heap} {k : Nat} {f : Addr} {fd : FuncData} {ps : List Str} {sp tp : Sp} (F : FnG P w K mg base k f fd ps sp) (h : ∀ vs H Q E, tp vs H Q E → sp vs H Q E) : FnG P w K mg base k f fd ps tp :=
  ⟨fun _ _ _ _ z => F.many _ _ _ _ (h _ _ _ _ z), fun q r e b v z => F.go q r e b v (h _ _ _ _ z)⟩
theorem fng_of {P : Program} {w : World} {K : PySem.W.Frag} {mg : Str → Option Value} {base : Heap} {x qual : Str} {st : Stmt} {f : Addr} {fd : FuncData} {N ps : List Str} {k : Nat} {sp : Sp} (F : Fun K x qual st f fd) (S : FnScope N ps (defScope st)) (many : ∀ vs H Q E, sp vs H Q E → vs.length = ps.length)
    (hb : ∀ (c : Value) (A : Around) (o : List PySem.Env) (s : Shared) (H : Hp) (vs : List V) (Q : VK) (E : XK), Quiet P base (A.deeper (envOfC qual (defScope st) s.heap.objs.size f c)) → Room k (A.deeper (envOfC qual (defScope st) s.heap.objs.size f c)) → sp vs H Q E →
      ∃ t, PSs (cxOf (L2.CX P w) P w K mg base N qual (defScope st) f c A o s H E) (defBody st) t ∧ t { nx := fun _ Z => Q .non Z, rt := Q } (start N vs) H) : FnG P w K mg base (k + 1) f fd ps sp := by
  obtain ⟨_, _, _, _, _, _, c, _, _, rfl, look, code⟩ := F.ex
  refine ⟨many, @fun A o s H g us vs Q E quiet room e0 bnd rv spec => ?_⟩
  have kin : K.In s.heap := e0.mod.kin.keeps fun b z q => (e0.bs b z q).1
  have nol : s.heap.NoLimit := e0.mod.nolimit.keeps fun b z q => (e0.bs b z q).1
  have kd : ∀ y ∈ ps.zip us, (defScope st).names.lookup y.1 = some .local ∨ ((defScope st).names.lookup y.1 = some .cell ∧ ((cellsFrom (s.heap.objs.size + 1) (defScope st).names []).lookup y.1).isSome = true) := by
    rintro ⟨n, v⟩ hy
    exact (S.par n (List.of_mem_zip hy).1).imp id fun q => ⟨q, PySem.W.cellsFrom_some _ _ _ (.inl q)⟩
  refine codeAny_call_function room.depth (kin _ _ look) rfl S.co S.gen rfl (PySem.W.codeRec_of kin code) (bnd _ _ _ _ (wpAny_newFunctionEnv_cells S.kind kd ?_))
  rintro _ rfl s1 ic
  refine ⟨nol.keeps ic.toInCall.keep, codeAny_func ?_⟩
  obtain ⟨t, ht, hq⟩ := hb c A o s H vs Q E ⟨⟨quiet.g, quiet.s, quiet.t⟩, _, _, Around.frames_deeper e0.frames, S.gen, S.co, rfl, rfl⟩ (room.deeper _) spec
  refine wpAny_mono (ht.run [] s1 _ H _ (inv_start (CX := L2.CX P w) (E := E) S room.hd e0 (many _ _ _ _ spec) rv ic) hq) ?_ (fun _ _ z => z)
  rintro (_ | _ | _ | u) z hz
  · obtain ⟨_, Z, J, q⟩ := hz
    exact ⟨.non, Z, J.os, J.bare, J.base, J.hok, rfl, q⟩
  · obtain ⟨_, _, _, q⟩ := hz
    exact q.elim
  · obtain ⟨_, _, _, q⟩ := hz
    exact q.elim
  · obtain ⟨v, _, Z, J, r, q⟩ := hz
    exact ⟨v, Z, J.os, J.bare, J.base, J.hok, r, q⟩
section
variable {X : Cx} {k : Nat} {f : Addr} {fd : FuncData} {ps : List Str} {sp : Sp} {E : St → XK} {x : Str} {p pos : Pos} {e : Expr} {es : List Expr} {t : TA}
theorem pe_callG (F : FnG X.prog X.w X.K X.mg X.base k f fd ps sp) (quiet : Quiet X.prog X.base X.A) (room : Room k X.A) (gl : Gl X x) (m : X.mg x = some (.ref f)) (kp : PySem.W.keepIn X.K (.ref f) = true) (bnd : Binds X.K fd ps []) (pass : ∀ σ, PassesAt (L2.CX X.prog X.w) X σ (E σ))
    (args : PA X (e :: es) t) (nd : (x == ("__debug__" : Str)) = false := by decide) (h1 : starEach (e :: es) X.env = (false, eval e X.env) :: starEach es X.env := by exact star_un rfl) (h2 : (backTo pos (starEach es X.env)).any (·.1) = false := by rfl) :
    PE X (.Call (.Name x p) (e :: es) [] pos) (tCallS sp E t) := by
  constructor
  intro pins s σ H Q I h
  refine wpAny_Call_Name_kw (ld_glob I gl m (PySem.W.callWith_K (h₀ := X.base) I.ok.mod.kin kp (thn (args.run pos pins s σ H _ I h) ?_) h1 h2) nd)
  rintro us s1 ⟨vs, H1, J, rv, q⟩
  refine ⟨J.kIn, ?_⟩
  have many : us.length = ps.length := rv.length ▸ F.many _ _ _ _ q
  have b0 := bnd s1 us J.kIn (by simpa using many)
  rw [List.append_nil] at b0
  refine wpAny_call (codeAny_mono (F.go quiet.toQuiet0 room J.env0 b0 rv q) ?_)
  rintro (err | (_ | _ | _ | u)) z hz
  · exact pass σ pins H1 s1 err z J hz
  · exact hz.elim
  · exact hz.elim
  · exact hz.elim
  · exact J.after hz
end
section
variable {P : Program} {w : World} {K : PySem.W.Frag} {mg mb : Str → Option Value} {k : Nat} {fa a : Addr} {fd : FuncData} {x : Str} {sp : Sp} {s : Shared} {vs : List Value} {ns : List Int}
abbrev Done (s : Shared) (r : Result) (z : Shared) : Prop := r = .ok (.ret (.bool true)) ∧ OldK s.heap z.heap ∧ z.os = s.os ∧ AllBare z.gens
abbrev scriptObj (vs : List Value) : Obj := { cls := .type "list", data := .seq vs.toArray }
theorem top_go (kin : K.In s.heap) (glb : s.heap.Ns mainGlobals mg) (blt : s.heap.Ns builtinsNs mb) (boot : ∀ x : Str, x ≠ "__name__" → mb x = bootBuiltins x) (nol : s.heap.NoLimit) (seer : s.heap.NoSeer) (tree : P.given.tree = none) (gens : s.gens = #[])
    (scr : s.heap.get? a = some (scriptObj vs)) (room : Room k callerA) (F : ∀ b : Heap, K.In b → b.Ns mainGlobals mg → FnG P w K mg b k fa fd [x] sp) (bnd : ∀ (s : Shared) (u : Value), BindsTo s fd ⟨[u], []⟩ [(x, u)])
    (H : Hp) (spec : sp [.ref a] H (fun v _ => v = .bl true) fun _ _ _ => False) (only : Only H) (hok : HOk P w H s.heap) (at_ : ∀ b, H b ≠ none → b = a) (out : H a ≠ none → K.lookup a = none) :
    codeAny (model P w) callerA (.call (.ref fa) ⟨[.ref a], []⟩) (Done s) s := by
  have here : ∀ {b : Addr} {z : HO}, H b = some z → b = a := fun {b z} q => at_ b (by rw [q]; exact Option.some_ne_none z)
  have free : ∀ {b : Addr} {z : Obj}, K.lookup b = some z → H b = none := by
    intro b z q
    match e : H b with
    | none => rfl
    | some y =>
      have i := here e
      rw [i] at e q
      rw [out (by rw [e]; exact Option.some_ne_none y)] at q
      cases q
  have dict : ∀ {b : Addr} {m : Str → Option Value}, s.heap.Ns b m → (hidT s.heap H).Ns b m := by
    rintro b m ⟨z, es, ep, q, dz, r⟩
    refine ⟨z, es, ep, hidT_get q ?_, dz, r⟩
    match e : H b with
    | none => rfl
    | some y =>
      rw [here e, scr] at q
      injection q with q
      rw [← q] at dz
      cases dz
  have nos : (hidT s.heap H).NoSeer := by
    obtain ⟨⟨m1, a1, b1⟩, ⟨m2, a2, b2⟩, ⟨m3, a3, b3⟩, m4, bm, ob, a4, b4, c4, d4, e4⟩ := seer
    refine ⟨⟨m1, dict a1, b1⟩, ⟨m2, dict a2, b2⟩, ⟨m3, dict a3, b3⟩, m4, bm, ob, dict a4, b4, hidT_get c4 ?_, d4, e4⟩
    match e : H bm with
    | none => rfl
    | some y =>
      rw [here e, scr] at c4
      injection c4 with c4
      rw [← c4] at d4
      injection d4 with d4
      exact absurd d4 (by decide)
  have kb : K.In (hidT s.heap H) := fun b z q => hidT_get (kin b z q) (free q)
  obtain ⟨mc, n1, n2⟩ := nol
  have e0 : Env0 P w K mg (hidT s.heap H) callerA [] s H :=
    ⟨rfl, ⟨kb, dict glb, ⟨mb, dict blt, boot⟩, ⟨mc, dict n1, n2⟩⟩, fun _ _ q => of_hidT q, Nat.le_of_eq (hidT_size _ _), trivial, (fun b q => absurd (show b ∈ ([] : List Addr) from q) List.not_mem_nil), hok, .of_eq gens⟩
  refine codeAny_mono ((F _ kb (dict glb)).go (us := [.ref a]) (vs := [.ref a]) ⟨rfl, nos, tree⟩ room e0 (bnd s (.ref a)) (.cons rfl .nil) spec) ?_
  rintro (err | (_ | _ | _ | u)) z hz
  · obtain ⟨_, _, _, _, _, _, _, _, _, _, _, _, no⟩ := hz
    exact no.elim
  · exact hz.elim
  · exact hz.elim
  · exact hz.elim
  · obtain ⟨v, Z, os, bare, un, okZ, rv, rfl⟩ := hz
    have : u = Value.bool true := rv
    subst this
    refine ⟨rfl, OldK.of_keep fun b z0 q => ?_, os, bare⟩
    match e : H b with
    | none => exact un.keep b z0 q e (fun m => absurd (show b ∈ ([] : List Addr) from m) List.not_mem_nil) (fun m => absurd (show b ∈ ([] : List Addr) from m) List.not_mem_nil)
    | some y =>
      rcases only b with n | ⟨ob, xs, n⟩
      · rw [n] at e; cases e
      · have g1 := (hok b _ n).1
        have g2 := (okZ b _ (un.frzs b ob _ n)).1
        rw [q] at g1
        injection g1 with g1
        rw [g1]; exact g2
theorem top_call (kin : K.In s.heap) (glb : s.heap.Ns mainGlobals mg) (blt : s.heap.Ns builtinsNs mb) (boot : ∀ x : Str, x ≠ "__name__" → mb x = bootBuiltins x) (nol : s.heap.NoLimit) (seer : s.heap.NoSeer) (tree : P.given.tree = none) (gens : s.gens = #[])
    (scr : s.heap.get? a = some (scriptObj vs)) (inz : IntsAre vs ns) (few : ns.length ≤ sizeLine) (room : Room k callerA) (F : ∀ b : Heap, K.In b → b.Ns mainGlobals mg → FnG P w K mg b k fa fd [x] sp) (bnd : ∀ (s : Shared) (u : Value), BindsTo s fd ⟨[u], []⟩ [(x, u)])
    (spec : ∀ H : Hp, SqL K H a (ns.map V.int) → sp [.ref a] H (fun v _ => v = .bl true) fun _ _ _ => False) :
    codeAny (model P w) callerA (.call (.ref fa) ⟨[.ref a], []⟩) (Done s) s := by
  have rv := vals_ints inz
  have many := inz.length
  match e : K.lookup a with
  | some z =>
    have q := kin a z e
    rw [scr] at q
    injection q with q
    subst q
    refine top_go kin glb blt boot nol seer tree gens scr room F bnd (fun _ => none) (spec _ (.inr ⟨_, vs.toArray, _, e, rfl, rfl, rfl, ?_, ?_⟩)) (fun _ => .inl rfl) (fun _ _ z => nomatch z) (fun _ z => (z rfl).elim) (fun z => (z rfl).elim)
    · rw [List.size_toArray, many]; exact few
    · simpa using rv
  | none =>
    have yes : ∀ {b : Addr}, b = a → (fun b => if b = a then some (HO.frz (scriptObj vs) (.lst (ns.map V.int))) else none) b = some (HO.frz (scriptObj vs) (.lst (ns.map V.int))) := fun q => if_pos q
    have nay : ∀ {b : Addr}, b ≠ a → (fun b => if b = a then some (HO.frz (scriptObj vs) (.lst (ns.map V.int))) else none) b = none := fun q => if_neg q
    generalize (fun b => if b = a then some (HO.frz (scriptObj vs) (.lst (ns.map V.int))) else none) = H at yes nay
    have isA : ∀ b, H b ≠ none → b = a := fun b z => Classical.byContradiction fun n => z (nay n)
    refine top_go kin glb blt boot nol seer tree gens scr room F bnd H (spec H (.inl (.inr ⟨_, yes rfl⟩))) (fun b => ?_) (fun b z q => ?_) isA (fun _ => e)
    · by_cases n : b = a
      · exact .inr ⟨_, _, yes n⟩
      · exact .inl (nay n)
    · have n : b = a := isA b (by rw [q]; exact Option.some_ne_none z)
      rw [yes n] at q
      injection q with q
      subst q; subst n
      exact ⟨scr, by rw [List.length_map]; exact few, vs, _, rv, scr⟩
end
end Dt
namespace Dt
open PySem PySem.Spec PyProof.Rows L2
structure Cr (A : Addr → Prop) (B H B' H' : Hp) : Prop where
  ex : Ex B' H'
  exB : Ex B B'
  kept : ∀ a o, H a = some o → ¬ A a → H' a = some o
  hid : ∀ a, B a = none → Ct H a → ¬ A a → B' a = none
  there : ∀ a, H a ≠ none → H' a ≠ none
theorem Cr.keeps {K : PySem.W.Frag} {F : Fr} {ρ : Env} {σ : St} {B H B' H' : Hp} {A : Addr → Prop} (L : Lv K F ρ σ B H) (c : Cr A B H B' H') (no : ∀ b, A b → ¬ OwS K B H ρ σ b) : ∀ a, OwS K B H ρ σ a → B' a = none ∧ ∀ o, H a = some o → H' a = some o := fun a w =>
  ⟨c.hid a (L.hidOw w).1 (L.hidOw w).2 fun z => no a z w, fun o q => c.kept a o q fun z => no a z w⟩
theorem Lv.callN {K : PySem.W.Frag} {F : Fr} {ρ : Env} {σ : St} {B H B' H' : Hp} {A : Addr → Prop} (L : Lv K F ρ σ B H) (c : Cr A B H B' H') (hA : ∀ b, A b → F.A b ∨ F.H0 b = none) (no : ∀ b, A b → ¬ OwS K B H ρ σ b) : Lv K F ρ σ B' H' := by
  refine L.move c.ex c.exB (c.keeps L no) (fun a o e n => ?_) (fun a e => c.there a (L.there a e)) (fun a e n k => ?_)
  · refine c.kept a o (L.kept a o e n) fun z => ?_
    rcases hA a z with q | q
    · exact n q
    · rw [q] at e; cases e
  · refine c.hid a (L.hid a e n k) (n.to fun o q => L.kept a o q k) fun z => ?_
    rcases hA a z with q | q
    · exact k q
    · exact n.ne q
inductive Rf where
  | ok (d : D) (o : Ob) (out : D)
  | rz (c : Str)
  | fail
inductive Args (K : PySem.W.Frag) (B H : Hp) (a : Addr) : Option Nat → List V → List D → Prop
  | nil : Args K B H a none [] []
  | fz {v : V} {d : D} {vs : List V} {ds : List D} : Fz K B v d → Args K B H a none vs ds → Args K B H a none (v :: vs) (d :: ds)
  | io {d : D} {vs : List V} {ds : List D} : Ow K B H a d → Args K B H a none vs ds → Args K B H a (some 0) (.ref a :: vs) (d :: ds)
  | fzS {j : Nat} {v : V} {d : D} {vs : List V} {ds : List D} : Fz K B v d → Args K B H a (some j) vs ds → Args K B H a (some (j + 1)) (v :: vs) (d :: ds)
def initS : Option Nat → List D → List Slot
  | _, [] => []
  | none, d :: r => .fz d :: initS none r
  | some 0, d :: r => .io d :: initS none r
  | some (j + 1), d :: r => .fz d :: initS (some j) r
def initE (m : Option Nat) (n : Nat) (ds : List D) : Env := initS m ds ++ List.replicate (n - ds.length) .un
def fin (m : Option Nat) (d : D) (o : Ob) (ρ : Env) : Rf := match m with
  | none => .ok d o .non
  | some j => match ρ[j]? with
    | some (.io out) => .ok d o out
    | _ => .fail
def runF (m : Option Nat) (n : Nat) (fb : M Fl) (ds : List D) : Rf := match fb (initE m n ds) with
  | .ok .nx ρ => fin m .non .ff ρ
  | .ok (.rt d o) ρ => fin m d o ρ
  | .rz c _ => .rz c
  | _ => .fail
def frP (m : Option Nat) (a : Addr) : List (Option Addr) := match m with
  | none => []
  | some j => List.replicate j none ++ [some a]
def ioA (m : Option Nat) (a : Addr) (b : Addr) : Prop := m ≠ none ∧ b = a
def frOf (m : Option Nat) (a : Addr) (B H : Hp) : Fr := ⟨B, H, ioA m a, frP m a⟩
def RV (K : PySem.W.Frag) (H B' H' : Hp) (a : Addr) (v : V) (d : D) : Ob → Prop
  | .tt => ∃ p, v = .ref p ∧ Ow K B' H' p d ∧ H p = none
  | .ff => Fz K B' v d
  | .dp m => ∃ S, Tr K B' H' m v d S ∧ S.Nodup ∧ ∀ p ∈ S, H p = none
  | .al => v = .ref a
def spF (K : PySem.W.Frag) (mg : Str → Option Value) (n : Nat) (m : Option Nat) (g : List D → Rf) : Sp := fun vs H Q E => ∃ (B : Hp) (ds : List D) (a : Addr), Ex B H ∧ Args K B H a m vs ds ∧ vs.length = n ∧
  match g ds with
  | .ok d o out => ∀ v B' H', Cr (ioA m a) B H B' H' → (m ≠ none → Ow K B' H' a out) → RV K H B' H' a v d o → Q v H'
  | .rz c => ∀ B' H', Cr (ioA m a) B H B' H' → E ((mg c).getD .none) none H'
  | .fail => False
section
variable {K : PySem.W.Frag} {B H : Hp} {a : Addr}
theorem Args.len : ∀ {m : Option Nat} {vs : List V} {ds : List D}, Args K B H a m vs ds → vs.length = ds.length
  | _, _, _, .nil => rfl
  | _, _, _, .fz _ r => by rw [List.length_cons, List.length_cons, Args.len r]
  | _, _, _, .io _ r => by rw [List.length_cons, List.length_cons, Args.len r]
  | _, _, _, .fzS _ r => by rw [List.length_cons, List.length_cons, Args.len r]
theorem initS_len : ∀ (m : Option Nat) (ds : List D), (initS m ds).length = ds.length
  | none, [] => rfl
  | some 0, [] => rfl
  | some (_ + 1), [] => rfl
  | none, d :: r => by show (initS none r).length + 1 = _; rw [initS_len none r]; rfl
  | some 0, d :: r => by show (initS none r).length + 1 = _; rw [initS_len none r]; rfl
  | some (j + 1), d :: r => by show (initS (some j) r).length + 1 = _; rw [initS_len (some j) r]; rfl
theorem Args.getF : ∀ {m : Option Nat} {vs : List V} {ds : List D} {i : Nat} {d : D}, Args K B H a m vs ds → (initS m ds)[i]? = some (.fz d) → ∃ v, vs[i]? = some v ∧ Fz K B v d
  | _, _, _, _, _, .nil, e => by simp [initS] at e
  | _, _, _, 0, _, .fz f _, e => by
    injection (show some (Slot.fz _) = some (Slot.fz _) from e) with e; injection e with e; subst e; exact ⟨_, rfl, f⟩
  | _, _, _, i + 1, d, .fz _ r, e => Args.getF (i := i) (d := d) r e
  | _, _, _, 0, _, .io _ _, e => by injection (show some (Slot.io _) = some (Slot.fz _) from e) with e; cases e
  | _, _, _, i + 1, d, .io _ r, e => Args.getF (i := i) (d := d) r e
  | _, _, _, 0, _, .fzS f _, e => by
    injection (show some (Slot.fz _) = some (Slot.fz _) from e) with e; injection e with e; subst e; exact ⟨_, rfl, f⟩
  | _, _, _, i + 1, d, .fzS _ r, e => Args.getF (i := i) (d := d) r e
theorem Args.getO : ∀ {m : Option Nat} {vs : List V} {ds : List D} {i : Nat} {s : Slot}, Args K B H a m vs ds → (initS m ds)[i]? = some s → owned s = true → m = some i ∧ vs[i]? = some (.ref a) ∧ Ow K B H a s.dat ∧ ∃ d, s = .io d
  | _, _, _, _, _, .nil, e, _ => by simp [initS] at e
  | _, _, _, 0, _, .fz f _, e, w => by injection (show some (Slot.fz _) = some _ from e) with e; subst e; cases w
  | _, _, _, i + 1, s, .fz _ r, e, w => by obtain ⟨h, _⟩ := Args.getO (i := i) (s := s) r e w; cases h
  | _, _, _, 0, _, .io f _, e, w => by injection (show some (Slot.io _) = some _ from e) with e; subst e; exact ⟨rfl, rfl, f, _, rfl⟩
  | _, _, _, i + 1, s, .io _ r, e, w => by obtain ⟨h, _⟩ := Args.getO (i := i) (s := s) r e w; cases h
  | _, _, _, 0, _, .fzS f _, e, w => by injection (show some (Slot.fz _) = some _ from e) with e; subst e; cases w
  | _, _, _, i + 1, s, .fzS _ r, e, w => by
    obtain ⟨h, q⟩ := Args.getO (i := i) (s := s) r e w
    injection h with h; subst h
    exact ⟨rfl, q⟩
theorem lv_start {m : Option Nat} {vs : List V} {ds : List D} {N : List Str} (A : Args K B H a m vs ds) (ex : Ex B H) (hN : vs.length ≤ N.length) :
    Lv K (frOf m a B H) (initE m N.length ds) (L2.start N vs) B H := by
  have hl := A.len
  have hs : ∀ {i : Nat} {s : Slot}, (initE m N.length ds)[i]? = some s → s = .un ∨ (initS m ds)[i]? = some s ∧ i < vs.length := fun {i s} e => by
    unfold initE at e
    by_cases h : i < (initS m ds).length
    · rw [List.getElem?_append_left h] at e
      exact .inr ⟨e, by rw [initS_len] at h; omega⟩
    · rw [List.getElem?_append_right (by omega)] at e
      exact .inl (List.eq_of_mem_replicate (List.mem_of_getElem? e))
  have ht : ∀ {i : Nat} {v : V}, vs[i]? = some v → (L2.start N vs)[i]? = some (some v) := fun {i v} e => by
    unfold L2.start
    have h := (List.getElem?_eq_some_iff.mp e).1
    rw [List.getElem?_append_left (by rw [List.length_map]; exact h), List.getElem?_map, e]; rfl
  refine ⟨ex, fun _ _ h _ => h, fun _ h => h, Ex.refl _, fun _ h _ _ => h, fun i d e => ?_, fun i s e w => ?_, fun i d e => ?_, fun i j s t v w S T b e1 e2 q1 q2 f1 f2 m1 m2 => ?_, ?_⟩
  · rcases hs e with z | ⟨e, _⟩
    · cases z
    · obtain ⟨v, e1, f⟩ := A.getF e
      exact ⟨v, ht e1, f⟩
  · rcases hs e with z | ⟨e, _⟩
    · subst z; cases w
    · obtain ⟨h1, h2, h3, d, rfl⟩ := A.getO e w
      exact ⟨.ref a, [a], ht h2, ⟨a, rfl, h3, rfl⟩, fun b hb => by rw [List.mem_singleton.mp hb]; exact .inl ⟨by rw [h1]; simp, rfl⟩⟩
  · rcases hs e with z | ⟨e, _⟩
    · cases z
    · obtain ⟨h1, h2, h3, _⟩ := A.getO e rfl
      subst h1
      refine ⟨a, ?_, ht h2⟩
      show (List.replicate i none ++ [some a])[i]? = some (some a)
      rw [List.getElem?_append_right (by rw [List.length_replicate]; omega), List.length_replicate, Nat.sub_self]; rfl
  · rcases hs e1 with z | ⟨e1, _⟩
    · subst z; exact f1.elim
    · rcases hs e2 with z | ⟨e2, _⟩
      · subst z; exact f2.elim
      · obtain ⟨h1, _⟩ := A.getO e1 f1.owned
        obtain ⟨h2, _⟩ := A.getO e2 f2.owned
        rw [h1] at h2; injection h2
  · show (initS m ds ++ List.replicate (N.length - ds.length) Slot.un).length = (vs.map some ++ List.replicate (N.length - vs.length) none).length
    rw [List.length_append, List.length_append, initS_len, List.length_replicate, List.length_replicate, List.length_map, hl]
end
theorem fn_def {P : Program} {w : World} {K : PySem.W.Frag} {mg : Str → Option Value} {base : Heap} {x qual : Str} {st : Stmt} {f : Addr} {fd : FuncData} {N ps : List Str} {k : Nat} {m : Option Nat} {fb : M Fl} (F : Fun K x qual st f fd) (S : FnScope N ps (defScope st)) (hps : ps.length ≤ N.length)
    (hbody : ∀ (cdv : Value) (A : Around) (outer : List PySem.Env) (s : Shared) (H : Hp) (E : XK), Quiet P base (A.deeper (envOfC qual (defScope st) s.heap.objs.size f cdv)) → Room k (A.deeper (envOfC qual (defScope st) s.heap.objs.size f cdv)) →
      SVs (cxOf (L2.CX P w) P w K mg base N qual (defScope st) f cdv A outer s H E) (fun cls d _ H => E cls d H) (defBody st) fb) : FnG P w K mg base (k + 1) f fd ps (spF K mg ps.length m (runF m N.length fb)) := by
  refine fng_of F S (fun vs H Q E h => by obtain ⟨_, _, _, _, _, h, _⟩ := h; exact h) (fun cdv A outer s H vs Q E gd hr h => ?_)
  refine ⟨_, pss_wss, ?_⟩
  obtain ⟨B, ds, a, ex, ar, hl, h⟩ := h
  have L := lv_start (N := N) ar ex (by omega)
  have done : ∀ {d : D} {o : Ob} {ρ' : Env} {v : V} {σ' : St} {B' H' : Hp}, (match fin m d o ρ' with
      | .ok d o out => ∀ v B' H', Cr (ioA m a) B H B' H' → (m ≠ none → Ow K B' H' a out) → RV K H B' H' a v d o → Q v H'
      | .rz c => ∀ B' H', Cr (ioA m a) B H B' H' → E ((mg c).getD .none) none H'
      | .fail => False) → Lv K (frOf m a B H) ρ' σ' B' H' → VO K (frOf m a B H) ρ' σ' B' H' v d o → Q v H' := by
    intro d o ρ' v σ' B' H' hq L' vo
    have cr : Cr (ioA m a) B H B' H' := ⟨L'.ex, L'.exB, L'.kept, L'.hid, L'.there⟩
    cases m with
    | none =>
      refine hq v B' H' cr (fun z => absurd rfl z) ?_
      cases o with
      | ff => exact vo
      | tt =>
        obtain ⟨p, e, ow, g, no⟩ := vo
        refine ⟨p, e, ow, ?_⟩
        rcases g with g | g
        · exact absurd rfl g.1
        · exact g
      | dp mk =>
        obtain ⟨S, t, nd, g⟩ := vo
        refine ⟨S, t, nd, fun p hp => ?_⟩
        rcases (g p hp).1 with g | g
        · exact absurd rfl g.1
        · exact g
      | al =>
        obtain ⟨j, b, p1, _⟩ := vo
        have p1' : ([] : List (Option Addr))[j]? = some (some b) := p1
        simp at p1'
    | some j =>
      unfold fin at hq
      cases q : ρ'[j]? with
      | none => simp only [q] at hq
      | some sl =>
        cases sl with
        | io out =>
          simp only [q] at hq
          obtain ⟨b, e1, w1, _⟩ := L'.ow j _ q rfl
          have pa : ∀ {j' : Nat} {b' : Addr}, (frP (some j) a)[j']? = some (some b') → b' = a := fun {j' b'} p1 => by
            have p1' : (List.replicate j none ++ [some a])[j']? = some (some b') := p1
            have := List.mem_of_getElem? p1'
            rcases List.mem_append.mp this with h | h
            · exact nomatch (List.eq_of_mem_replicate h)
            · injection List.mem_singleton.mp h
          obtain ⟨b', p1, e2⟩ := L'.io j _ q
          have hb : b' = a := pa p1
          have hb2 : b = b' := by rw [e1] at e2; injection e2 with z; injection z with z; injection z
          subst hb2; subst hb
          refine hq v B' H' cr (fun _ => w1) ?_
          have isO : OwS K B' H' ρ' σ' b := .mk q rfl e1 w1
          cases o with
          | ff => exact vo
          | tt =>
            obtain ⟨p, e, ow, g, no⟩ := vo
            refine ⟨p, e, ow, ?_⟩
            rcases g with g | g
            · obtain ⟨_, rfl⟩ := g
              exact absurd isO no
            · exact g
          | dp mk =>
            obtain ⟨S, t, nd, g⟩ := vo
            refine ⟨S, t, nd, fun p hp => ?_⟩
            rcases (g p hp).1 with h | h
            · obtain ⟨_, rfl⟩ := h
              exact absurd isO (g p hp).2
            · exact h
          | al =>
            obtain ⟨j', b', p1, rfl⟩ := vo
            rw [pa p1]; rfl
        | un => simp only [q] at hq
        | fz _ => simp only [q] at hq
        | ow _ => simp only [q] at hq
        | dp _ _ => simp only [q] at hq
  refine hbody cdv A outer s H E gd hr _ _ _ B H _ L ?_
  unfold runF at h
  cases q : fb (initE m N.length ds) with
  | ok fl ρ' =>
    rw [q] at h
    cases fl with
    | nx => exact fun σ' B' H' e' L' => done (v := .non) h L' (show Fz K B' V.non D.non from .non)
    | rt d o => exact fun v σ' B' H' e' L' vo => done h L' vo
    | bk => exact h.elim
    | ct => exact h.elim
  | rz c ρ' =>
    rw [q] at h
    exact fun σ' B' H' e' L' => h B' H' ⟨L'.ex, L'.exB, L'.kept, L'.hid, L'.there⟩
  | fail => rw [q] at h; exact h.elim
inductive AV where
  | v (d : D)
  | s (i : Nat)
inductive AOks (K : PySem.W.Frag) (B : Hp) (σ : St) : List V → List AV → Prop
  | nil : AOks K B σ [] []
  | v {x : V} {d : D} {xs : List V} {avs : List AV} : Fz K B x d → AOks K B σ xs avs → AOks K B σ (x :: xs) (.v d :: avs)
  | s {x : V} {i : Nat} {xs : List V} {avs : List AV} : σ[i]? = some (some x) → AOks K B σ xs avs → AOks K B σ (x :: xs) (.s i :: avs)
theorem AOks.mono {K : PySem.W.Frag} {B B' : Hp} {σ : St} (e : Ex B B') : ∀ {xs : List V} {avs : List AV}, AOks K B σ xs avs → AOks K B' σ xs avs
  | _, _, .nil => .nil
  | _, _, .v f r => .v (f.mono e) (AOks.mono e r)
  | _, _, .s f r => .s f (AOks.mono e r)
def EX (X : Cx) (W : WX) (es : List Expr) (f : M (List AV)) : Prop := ∀ (F : Fr) (ρ : Env) (σ : St) (B H : Hp) (Q : List V → Hp → Prop), Lv X.K F ρ σ B H →
  Post X W F σ B (f ρ) (fun avs _ B' H' => ∀ vs, AOks X.K B' σ vs avs → Q vs H') → wa X es σ H Q
def xNil : M (List AV) := M.pure []
def xV (f : M D) (g : M (List AV)) : M (List AV) := M.bind f fun x => M.bind g fun xs => M.pure (.v x :: xs)
def xS (i : Nat) (g : M (List AV)) : M (List AV) := M.bind (fun ρ => match ρ[i]? with
  | some (.ow _) => .ok () ρ
  | some (.io _) => .ok () ρ
  | _ => .fail) fun _ => M.bind g fun xs => M.pure (.s i :: xs)
section
variable {X : Cx} {W : WX} {e : Expr} {es : List Expr} {pos : Pos}
theorem ex_nil : EX X W [] xNil := fun F ρ σ B H Q L P => PA.wa pa_nil (P B H (Ex.refl _) L [] .nil)
theorem ex_v {f : M D} {g : M (List AV)} (ha : EV X W e f) (hr : EX X W es g) (hs : starEach (e :: es) X.env = (false, eval e X.env) :: starEach es X.env := by exact star_un rfl) : EX X W (e :: es) (xV f g) := by
  intro F ρ σ B H Q L P
  refine PA.wa (pa_cons pe_we pa_wa hs) ?_
  refine ha F ρ σ B H _ L ((Post.bind P).imp fun dx ρ1 B1 H1 e1 L1 P1 x fx => ?_)
  refine hr F ρ1 σ B1 H1 _ L1 ((Post.bind P1).imp fun ds ρ2 B2 H2 e2 L2 P2 xs fs => ?_)
  exact P2 B2 H2 (Ex.refl _) L2 _ (.v (fx.mono e2) fs)
theorem ex_s (i : Nat) {x : Str} {p : Pos} {g : M (List AV)} (hr : EX X W es g) (hN : X.N[i]? = some x := by rfl) (hv : Vis X.env.scope x := by first | exact Or.inl rfl | exact Or.inr (Or.inl rfl) | exact Or.inr (Or.inr rfl)) (hd : (x == ("__debug__" : Str)) = false := by decide)
    (hcd : (x == ("__classdict__" : Str)) = false := by decide) (hs : starEach (.Name x p :: es) X.env = (false, eval (.Name x p) X.env) :: starEach es X.env := by rfl) : EX X W (.Name x p :: es) (xS i g) := by
  intro F ρ σ B H Q L P
  refine PA.wa (pa_cons (pe_var hN hv hd hcd) pa_wa hs) ?_
  have P1 := Post.bind P
  have go : ∀ {v : V}, σ[i]? = some (some v) → Post X W F σ B ((M.bind g fun xs => M.pure (.s i :: xs)) ρ) (fun avs _ B' H' => ∀ vs, AOks X.K B' σ vs avs → Q vs H') → (tVar i σ H fun x H1 => wa X es σ H1 fun xs H2 => Q (x :: xs) H2) := by
    intro v ev P2
    refine ⟨v, ev, ?_⟩
    refine hr F ρ σ B H _ L ((Post.bind P2).imp fun ds ρ2 B2 H2 e2 L2 P2 xs fs => ?_)
    exact P2 B2 H2 (Ex.refl _) L2 _ (.s ev fs)
  cases q : ρ[i]? with
  | none => simp only [q] at P1; exact P1.elim
  | some sl =>
    cases sl with
    | ow d =>
      simp only [q] at P1
      obtain ⟨a, e1, _⟩ := L.ow i _ q rfl
      exact go e1 (P1 B H (Ex.refl _) L)
    | io d =>
      simp only [q] at P1
      obtain ⟨a, e1, _⟩ := L.ow i _ q rfl
      exact go e1 (P1 B H (Ex.refl _) L)
    | un => simp only [q] at P1; exact P1.elim
    | fz d => simp only [q] at P1; exact P1.elim
    | dp m d => simp only [q] at P1; exact P1.elim
def contS : Option Slot → Option D
  | some (.ow d) => some d
  | some (.io d) => some d
  | _ => none
def setup (ρ : Env) : Option Nat → List AV → Option (List D)
  | none, [] => some []
  | none, .v d :: r => (setup ρ none r).map (d :: ·)
  | some 0, .s i :: r => (contS ρ[i]?).bind fun d => (setup ρ none r).map (d :: ·)
  | some (j + 1), .v d :: r => (setup ρ (some j) r).map (d :: ·)
  | _, _ => none
def slotOf : Option Nat → List AV → Option Nat
  | some 0, .s i :: _ => some i
  | some (j + 1), _ :: r => slotOf (some j) r
  | _, _ => none
def reslot (s : Option Slot) (d : D) : Slot := match s with
  | some (.ow _) => .ow d
  | some (.io _) => .io d
  | _ => .un
def mCallF (m : Option Nat) (g : List D → Rf) (f : M (List AV)) : M (D × Ob) := M.bind f fun avs ρ => match setup ρ m avs with
  | none => .fail
  | some ds => match g ds with
    | .ok d o out => if o.ok = true then .ok (d, o) (match slotOf m avs with
      | none => ρ
      | some i => ρ.set i (reslot ρ[i]? out)) else .fail
    | .rz c => .rz c (match slotOf m avs with
      | none => ρ
      | some i => ρ.set i .un)
    | .fail => .fail
theorem setup_none {K : PySem.W.Frag} {B H : Hp} {σ : St} {ρ : Env} {a : Addr} : ∀ {vs : List V} {avs : List AV} {ds : List D}, AOks K B σ vs avs → setup ρ none avs = some ds → Args K B H a none vs ds
  | _, _, _, .nil, h => by injection h with h; subst h; exact .nil
  | _, _, _, .v f r, h => by
    have h' : (setup ρ none _).map (_ :: ·) = some _ := h
    cases q : setup ρ none _ with
    | none => rw [q] at h'; cases h'
    | some ds => rw [q] at h'; injection h' with h'; subst h'; exact .fz f (setup_none r q)
  | _, _, _, .s _ _, h => by cases (show (none : Option (List D)) = some _ from h)
theorem slotOf_none : ∀ (avs : List AV), slotOf none avs = none
  | [] => rfl
  | .v _ :: _ => rfl
  | .s _ :: _ => rfl
theorem setup_some {K : PySem.W.Frag} {F : Fr} {B H : Hp} {σ : St} {ρ : Env} (L : Lv K F ρ σ B H) : ∀ {j : Nat} {vs : List V} {avs : List AV} {ds : List D}, AOks K B σ vs avs → setup ρ (some j) avs = some ds →
    ∃ i s a, slotOf (some j) avs = some i ∧ ρ[i]? = some s ∧ flat s = true ∧ σ[i]? = some (some (.ref a)) ∧ Args K B H a (some j) vs ds
  | 0, _, _, _, .s (x := x) (i := i) f r, h => by
    have h' : (contS ρ[i]?).bind (fun d => (setup ρ none _).map (d :: ·)) = some _ := h
    cases q : contS ρ[i]? with
    | none => rw [q] at h'; cases h'
    | some d =>
      rw [q] at h'
      have h2 : (setup ρ none _).map (d :: ·) = some _ := h'
      cases q2 : setup ρ none _ with
      | none => rw [q2] at h2; cases h2
      | some ds =>
        rw [q2] at h2; injection h2 with h2; subst h2
        cases q3 : ρ[i]? with
        | none => rw [q3] at q; cases q
        | some s =>
          rw [q3] at q
          have ho : flat s = true ∧ s.dat = d := by
            cases s with
            | ow d' => injection q with q; exact ⟨rfl, q⟩
            | io d' => injection q with q; exact ⟨rfl, q⟩
            | un => cases q
            | fz d' => cases q
            | dp _ d' => cases q
          obtain ⟨a, e1, w, g⟩ := L.ow i s q3 ho.1
          rw [e1] at f
          injection f with f; injection f with f; subst f
          rw [ho.2] at w
          exact ⟨i, s, a, rfl, q3, ho.1, e1, .io w (setup_none r q2)⟩
  | j + 1, _, _, _, .v (d := d) f r, h => by
    have h' : (setup ρ (some j) _).map (d :: ·) = some _ := h
    cases q : setup ρ (some j) _ with
    | none => rw [q] at h'; cases h'
    | some ds =>
      rw [q] at h'; injection h' with h'; subst h'
      obtain ⟨i, s, a, h1, h2, h3, h4, h5⟩ := setup_some L r q
      exact ⟨i, s, a, h1, h2, h3, h4, .fzS f h5⟩
  | 0, _, _, _, .nil, h => by cases (show (none : Option (List D)) = some _ from h)
  | 0, _, _, _, .v _ _, h => by cases (show (none : Option (List D)) = some _ from h)
  | _ + 1, _, _, _, .nil, h => by cases (show (none : Option (List D)) = some _ from h)
  | _ + 1, _, _, _, .s _ _, h => by cases (show (none : Option (List D)) = some _ from h)
theorem call_sp {F : Fr} {ρ : Env} {σ : St} {B H : Hp} {Q : VK} {m : Option Nat} {g : List D → Rf} {n : Nat} {avs : List AV} {vs : List V} (L : Lv X.K F ρ σ B H) (fs : AOks X.K B σ vs avs) (hn : vs.length = n)
    (P : Post X W F σ B ((match setup ρ m avs with
      | none => Rs.fail
      | some ds => match g ds with
        | .ok d o out => if o.ok = true then .ok (d, o) (match slotOf m avs with | none => ρ | some i => ρ.set i (reslot ρ[i]? out)) else .fail
        | .rz c => .rz c (match slotOf m avs with | none => ρ | some i => ρ.set i .un)
        | .fail => .fail) : Rs (D × Ob)) (fun p ρ' B' H' => ∀ v, VO X.K F ρ' σ B' H' v p.1 p.2 → Q v H')) : spF X.K X.mg n m g vs H Q (WE W σ) := by
  cases q : setup ρ m avs with
  | none => rw [q] at P; exact P.elim
  | some ds =>
    rw [q] at P
    cases m with
    | none =>
      rw [slotOf_none] at P
      refine ⟨B, ds, 0, L.ex, setup_none fs q, hn, ?_⟩
      have hA : ∀ b, ioA none 0 b → F.A b ∨ F.H0 b = none := fun b z => absurd rfl z.1
      have hO : ∀ b, ioA none 0 b → ¬ OwS X.K B H ρ σ b := fun b z => absurd rfl z.1
      cases q2 : g ds with
      | ok d o out =>
        simp only [q2] at P ⊢
        intro v B' H' cr _ rv
        have L' := L.callN cr hA hO
        have no : ∀ {p : Addr}, H p = none → ¬ OwS X.K B' H' ρ σ p := fun {p} n0 z => (L.hidOw (z.back L cr.exB (cr.keeps L hO))).2.ne n0
        split at P
        · rename_i ok
          refine P B' H' cr.exB L' v ?_
          cases o with
          | ff => exact rv
          | tt =>
            obtain ⟨p, e, w, n0⟩ := rv
            exact ⟨p, e, w, .inr (L.free n0), no n0⟩
          | dp mk =>
            obtain ⟨S, t, nd, n0⟩ := rv
            exact ⟨S, t, nd, fun p hp => ⟨.inr (L.free (n0 p hp)), no (n0 p hp)⟩⟩
          | al => cases ok
        · exact P.elim
      | rz c =>
        simp only [q2] at P ⊢
        exact fun B' H' cr => P B' H' cr.exB (L.callN cr hA hO)
      | fail => simp only [q2] at P; exact P.elim
    | some j =>
      obtain ⟨i, s, a, hsl, hs, ho, hsig, ar⟩ := setup_some L fs q
      rw [hsl] at P
      refine ⟨B, ds, a, L.ex, ar, hn, ?_⟩
      obtain ⟨v0, S0, q', f0, g0, no0, L1⟩ := L.take hs (flat_owned ho)
      rw [hsig] at q'; injection q' with q'; injection q' with q'; subst q'
      obtain ⟨w0, rfl⟩ := f0.one ho
      have g0 := g0 a (by simp)
      have na := no0 a (by simp)
      have hA : ∀ b, ioA (some j) a b → F.A b ∨ F.H0 b = none := fun b z => by rw [z.2]; exact g0
      have hO : ∀ b, ioA (some j) a b → ¬ OwS X.K B H (ρ.set i .un) σ b := fun b z => by rw [z.2]; exact na
      cases q2 : g ds with
      | ok d o out =>
        simp only [q2] at P ⊢
        intro v B' H' cr wo rv
        have L2 := L1.callN cr hA hO
        have bk : ∀ {p : Addr}, OwS X.K B' H' (ρ.set i .un) σ p → OwS X.K B H (ρ.set i .un) σ p := fun {p} z => z.back L1 cr.exB (cr.keeps L1 hO)
        have ht : flat (reslot ρ[i]? out) = true ∧ (reslot ρ[i]? out).dat = out := by
          rw [hs]
          cases s with
          | ow d' => exact ⟨rfl, rfl⟩
          | io d' => exact ⟨rfl, rfl⟩
          | un => cases ho
          | fz d' => cases ho
          | dp _ d' => cases ho
        have L3 := L2.own (i := i) (t := reslot ρ[i]? out) (v := .ref a) (S := [a]) hsig (.mk (by rw [ht.2]; exact wo (by simp)) ht.1) (by simpa using g0) (fun b hb h => by
              rw [List.set_set] at h
              rw [List.mem_singleton.mp hb] at h
              exact na (bk h)) (fun d' z => by
            rw [hs] at z
            cases s with
            | ow d' => cases z
            | io d'' =>
              obtain ⟨b, p1, p2⟩ := L.io i d'' hs
              rw [hsig] at p2
              obtain rfl : a = b := by injection p2 with z; injection z with z; injection z
              exact ⟨a, rfl, p1⟩
            | un => cases ho
            | fz d' => cases ho
            | dp _ d' => cases ho)
        rw [List.set_set] at L3
        have no : ∀ {p : Addr}, H p = none → ¬ OwS X.K B' H' (ρ.set i (reslot ρ[i]? out)) σ p := fun {p} n0 ⟨j', s', v', S', e1, q1, f1, m1⟩ => by
          rcases get_set e1 with ⟨rfl, z, l⟩ | ⟨n, e1⟩
          · rw [hsig] at q1; injection q1 with q1; injection q1 with q1; subst q1
            rw [z] at f1
            obtain ⟨_, rfl⟩ := f1.one ht.1
            rw [List.mem_singleton.mp m1] at n0
            exact w0.there.ne n0
          · exact (L1.hidOw (bk ⟨j', s', v', S', by rw [List.getElem?_set_ne (Ne.symm n)]; exact e1, q1, f1, m1⟩)).2.ne n0
        split at P
        · rename_i ok
          refine P B' H' cr.exB L3 v ?_
          cases o with
          | ff => exact rv
          | tt =>
            obtain ⟨p, e, w, n0⟩ := rv
            exact ⟨p, e, w, .inr (L.free n0), no n0⟩
          | dp mk =>
            obtain ⟨S, t, nd, n0⟩ := rv
            exact ⟨S, t, nd, fun p hp => ⟨.inr (L.free (n0 p hp)), no (n0 p hp)⟩⟩
          | al => cases ok
        · exact P.elim
      | rz c =>
        simp only [q2] at P ⊢
        exact fun B' H' cr => P B' H' cr.exB (L1.callN cr hA hO)
      | fail => simp only [q2] at P; exact P.elim
theorem aoks_len {K : PySem.W.Frag} {B : Hp} {σ : St} : ∀ {vs : List V} {avs : List AV}, AOks K B σ vs avs → vs.length = avs.length
  | _, _, .nil => rfl
  | _, _, .v _ r => by rw [List.length_cons, List.length_cons, aoks_len r]
  | _, _, .s _ r => by rw [List.length_cons, List.length_cons, aoks_len r]
def mCallN (n : Nat) (m : Option Nat) (g : List D → Rf) (f : M (List AV)) : M (D × Ob) := mCallF m g (M.bind f fun avs => M.opt (if avs.length = n then some avs else none))
theorem eo_call {x : Str} {k n : Nat} {f : Addr} {fd : FuncData} {ps : List Str} {m : Option Nat} {g : List D → Rf} {p : Pos} {fa : M (List AV)} (G : FnG X.prog X.w X.K X.mg X.base k f fd ps (spF X.K X.mg n m g)) (gd : Quiet X.prog X.base X.A) (hr : Room k X.A) (tk : Takes X W)
    (hm : X.mg x = some (.ref f)) (hk : PySem.W.keepIn X.K (.ref f) = true) (hb : Binds X.K fd ps []) (ha : EX X W (e :: es) fa) (hg : Gl X x := by rfl) (hdb : (x == ("__debug__" : Str)) = false := by decide)
    (he : starEach (e :: es) X.env = (false, eval e X.env) :: starEach es X.env := by exact star_un rfl) (hpl : (backTo pos (starEach es X.env)).any (·.1) = false := by rfl) : EO X W (.Call (.Name x p) (e :: es) [] pos) (mCallN n m g fa) := by
  intro F ρ σ B H Q L P
  refine PE.we (pe_callG G gd hr hg hm hk hb (fun σ => passAt tk σ) pa_wa hdb he hpl) ?_
  have P0 := Post.bind P
  refine ha F ρ σ B H _ L ((Post.bind P0).imp fun avs ρ1 B1 H1 e1 L1 P1 vs fs => ?_)
  obtain ⟨avs', h1, h2⟩ := P1.opt
  split at h1
  · rename_i hl
    injection h1 with h1; subst h1
    exact call_sp L1 fs (by rw [aoks_len fs]; exact hl) (h2 B1 H1 (Ex.refl _) L1)
  · cases h1
end
end Dt
namespace Dt
open PySem PySem.Spec PyProof.Rows L2
section
variable {X : Cx} {W : WX} {e a b c : Expr} {pos : Pos} {K : PySem.W.Frag}
def dAbs : List D → Option D
  | [.int i] => some (.int (if i < 0 then -i else i))
  | _ => none
theorem cd_abs : CallD K (fun xs H Q => ∃ i, xs = [.int i] ∧ Q (.int (if i < 0 then -i else i)) H) dAbs := by
  intro xs ds d B H Q ex fs h g
  unfold dAbs at h
  split at h
  · cases fs with
    | cons f fs => cases fs; cases f; injection h with h; subst h; exact ⟨_, rfl, g.1 _ (.int _)⟩
  · cases h
def dLen : List D → Option D
  | [.lst xs] => some (.int xs.length)
  | [.tup xs] => some (.int xs.length)
  | [.scr xs] => some (.int xs.length)
  | [.str x] => if tooLong x.length = true then none else some (.int x.length)
  | _ => none
theorem cd_len : CallD K (fun xs H Q => ∃ x n, xs = [x] ∧ LenV K x H n ∧ Q (.int n) H) dLen := by
  intro xs ds d B H Q ex fs h g
  unfold dLen at h
  split at h
  · cases fs with
    | cons f fs =>
      cases fs
      cases f with
      | @lst l xs ds hl fs =>
        injection h with h; subst h
        exact ⟨_, xs.length, rfl, .inl ⟨xs, .inl (.inl (ex _ _ hl)), rfl⟩, by rw [fs.len]; exact g.1 _ (.int _)⟩
  · cases fs with
    | cons f fs =>
      cases fs
      cases f with
      | @tup l xs ds hl fs =>
        injection h with h; subst h
        exact ⟨_, xs.length, rfl, .inr ⟨xs, ex.st hl, rfl⟩, by rw [fs.len]; exact g.1 _ (.int _)⟩
  · cases fs with
    | cons f fs =>
      cases fs
      cases f with
      | @scr l ns hl =>
        injection h with h; subst h
        exact ⟨_, (List.map V.int _).length, rfl, .inl ⟨_, ex.sl hl, rfl⟩, by rw [List.length_map]; exact g.1 _ (.int _)⟩
  · cases fs with
    | cons f fs =>
      cases fs
      cases f
      split at h
      · cases h
      · rename_i hz
        injection h with h; subst h
        exact ⟨_, _, rfl, ⟨notLong hz, rfl⟩, g.1 _ (.int _)⟩
  · cases h
variable {es : List Expr} {p : Pos} {fa : M (List D)} {f1 : M D}
theorem ev_abs (hm : X.mg "abs" = none) (ha : EA X W [a] fa) (hg : Gl X "abs" := by rfl) (he : starEach (a :: []) X.env = (false, eval a X.env) :: starEach [] X.env := by rfl) : EV X W (.Call (.Name "abs" p) [a] [] pos) (mCall dAbs fa) := ev_callB call_abs cd_abs hg hm (by decide +kernel) ha (by decide) (by decide) he
theorem ev_len (hm : X.mg "len" = none) (ha : EA X W [a] fa) (hg : Gl X "len" := by rfl) (he : starEach (a :: []) X.env = (false, eval a X.env) :: starEach [] X.env := by rfl) : EV X W (.Call (.Name "len" p) [a] [] pos) (mCall dLen fa) := ev_callB call_len cd_len hg hm PySem.boot_len ha (by decide) (by decide) he
def tyD : D → String
  | .non => "NoneType"
  | .bl _ => "bool"
  | .int _ => "int"
  | .str _ => "str"
  | .lst _ => "list"
  | .tup _ => "tuple"
  | .scr _ => "list"
  | .dic _ _ => "dict"
  | .dct _ _ => "dict"
  | .obj _ => "object"
  | .key _ => "tuple"
def isO : D → Bool
  | .obj _ => true
  | .dct _ _ => true
  | _ => false
def dIsi (T : String) (d : D) : Option D := cond (isO d) none ((kitB (tyD d) T).map D.bl)
def mIsi (T : String) (f : M D) : M D := M.bind f fun d => M.opt (dIsi T d)
def chk (i : Nat) : M Unit := fun ρ => match ρ[i]? with
  | some (.ow _) => .ok () ρ
  | some (.io _) => .ok () ρ
  | some (.fz _) => .ok () ρ
  | _ => .fail
theorem Lv.chk {α : Type} {F : Fr} {ρ : Env} {σ : St} {B H : Hp} {i : Nat} (L : Lv K F ρ σ B H) (h : Dt.chk i ρ ≠ .fail) : Dt.chk i ρ = .ok () ρ ∧ ∃ v, σ[i]? = some (some v) := by
  unfold Dt.chk at h ⊢
  split at h
  · rename_i d q
    obtain ⟨a, e1, _⟩ := L.ow i _ q rfl
    exact ⟨by simp only [q], _, e1⟩
  · rename_i d q
    obtain ⟨a, e1, _⟩ := L.ow i _ q rfl
    exact ⟨by simp only [q], _, e1⟩
  · rename_i d q
    obtain ⟨v, e1, _⟩ := L.fz i _ q
    exact ⟨by simp only [q], _, e1⟩
  · exact absurd rfl h
def mPutAt (i : Nat) (fe fk : M D) : M Fl := M.bind fe fun d => M.bind (chk i) fun _ => M.bind fk fun k ρ => match ρ[i]?, k with
  | some (.ow (.lst ds)), .int z => match ixN ds.length z with
    | some j => .ok .nx (ρ.set i (.ow (.lst (ds.set j d))))
    | none => .fail
  | some (.io (.lst ds)), .int z => match ixN ds.length z with
    | some j => .ok .nx (ρ.set i (.io (.lst (ds.set j d))))
    | none => .fail
  | _, _ => .fail
theorem Lv.setAt {F : Fr} {ρ : Env} {σ : St} {B H : Hp} {i : Nat} {s : Slot} {ds ds' : List D} (L : Lv K F ρ σ B H) (e : ρ[i]? = some s) (ho : flat s = true) (hd : s.dat = .lst ds) :
    ∃ a vs, σ[i]? = some (some (V.ref a)) ∧ H a = some (.lst vs) ∧ Fzs K B vs ds ∧ ∀ vs' ds', Fzs K B vs' ds' → Lv K F (ρ.set i (reslot ρ[i]? (.lst ds'))) σ B (upd H a (.lst vs')) := by
  obtain ⟨a, e1, w, g⟩ := L.ow i s e ho
  rw [hd] at w
  obtain ⟨n, vs, h1, fs⟩ := w
  refine ⟨a, vs, e1, h1, fs, fun vs' ds' fs' => ?_⟩
  refine L.write e ho e1 ?_ ?_
  · rw [e]
    cases s with
    | ow d => exact .inl ⟨d, rfl, _, rfl⟩
    | io d => exact .inr ⟨d, rfl, _, rfl⟩
    | un => cases ho
    | fz d => cases ho
    | dp _ d => cases ho
  · rw [e]
    cases s with
    | ow d => exact ⟨n, vs', upd_same, fs'⟩
    | io d => exact ⟨n, vs', upd_same, fs'⟩
    | un => cases ho
    | fz d => cases ho
    | dp _ d => cases ho
theorem sv_putAt {i : Nat} {x : Str} {kx : Expr} {px pt : Pos} {fe fk : M D} (he : EV X W e fe) (hk : EV X W kx fk) (hN : X.N[i]? = some x := by rfl) (hv : Vis X.env.scope x := by first | exact Or.inl rfl | exact Or.inr (Or.inl rfl) | exact Or.inr (Or.inr rfl)) (hd : (x == ("__debug__" : Str)) = false := by decide)
    (hcd : (x == ("__classdict__" : Str)) = false := by decide)
    (ha : ∀ v, assign (.Subscript (.Name x px) kx pt) X.env v = (do
      let ov ← holding [v] (eval (.Name x px) X.env)
      let iv ← holding [v, ov] (eval kx X.env)
      standAt pt
      holding [v, ov, iv] (setItem ov iv v)
      release [v, ov, iv] []) := by intro _; rfl)
    (hs : swapsWithSole [.Subscript (.Name x px) kx pt] e pos.line X.env = pure false := by rfl) (hw : swappedStores [.Subscript (.Name x px) kx pt] e X.env = pure none := by rfl)
    (h1 : (assignEach [.Subscript (.Name x px) kx pt] X.env).map (·.2) = [assign (.Subscript (.Name x px) kx pt) X.env] := by rfl) : SV X W (.Assign [.Subscript (.Name x px) kx pt] e pos) (mPutAt i fe fk) := by
  intro F ρ σ B H N L P
  refine PS.ws (ps_asg pe_we (pg_sub (pe_var hN hv hd hcd) pe_we set_list ha) hs hw h1) ?_
  refine he F ρ σ B H _ L ((PostS.bind P).imp fun d ρ1 B1 H1 e1 L1 P1 v fv => ?_)
  have P1' : PostS X W F B1 ((M.bind (chk i) fun _ => M.bind fk fun k ρ => match ρ[i]?, k with
    | some (.ow (.lst ds)), .int z => match ixN ds.length z with
      | some j => .ok .nx (ρ.set i (.ow (.lst (ds.set j d))))
      | none => .fail
    | some (.io (.lst ds)), .int z => match ixN ds.length z with
      | some j => .ok .nx (ρ.set i (.io (.lst (ds.set j d))))
      | none => .fail
    | _, _ => Rs.fail) ρ1) N := P1
  have hne : chk i ρ1 ≠ .fail := fun z => by unfold M.bind at P1'; simp only [z] at P1'; exact P1'.elim
  obtain ⟨hck, vo0, ev0⟩ := L1.chk (α := Unit) hne
  unfold M.bind at P1'
  simp only [hck] at P1'
  have P2 := PostS.bind (σ := σ) P1'
  have go : ∀ (vo : V), σ[i]? = some (some vo) → tVar i σ H1 fun o H1' => we X kx σ H1' fun k H2 => rSetL o k v H2 fun H3 => N.nx σ H3 := by
    intro vo ev
    refine ⟨vo, ev, hk F ρ1 σ B1 H1 _ L1 (P2.imp fun k ρ2 B2 H2 e2 L2 P3 u fu => ?_)⟩
    cases q : ρ2[i]? with
    | none => simp only [q] at P3; exact P3.elim
    | some s =>
      have fin : ∀ {ds : List D} {z : Int} {j : Nat}, flat s = true → s.dat = .lst ds → k = .int z → ixN ds.length z = some j → PostS X W F B2 (.ok .nx (ρ2.set i (reslot ρ2[i]? (.lst (ds.set j d))))) N → rSetL vo u v H2 fun H3 => N.nx σ H3 := by
        intro ds z j ho hdat hk hj P4
        subst hk
        cases fu
        obtain ⟨a, vs, h1, h2, fs, st⟩ := L2.setAt (ds' := ds) q ho hdat
        rw [ev] at h1
        injection h1 with h1; injection h1 with h1; subst h1
        exact ⟨a, vs, z, j, rfl, rfl, h2, by rw [fs.len]; exact hj, P4 σ B2 _ (Ex.refl _) (st _ _ (fs.set j (fv.mono e2)))⟩
      cases s with
      | ow dd =>
        cases dd with
        | lst ds =>
          cases k with
          | int z =>
            simp only [q] at P3
            cases hj : ixN ds.length z with
            | none => simp only [hj] at P3; exact P3.elim
            | some j => simp only [hj] at P3; exact fin rfl rfl rfl hj (by rw [q]; exact P3)
          | _ => simp only [q] at P3; exact P3.elim
        | _ => simp only [q] at P3; exact P3.elim
      | io dd =>
        cases dd with
        | lst ds =>
          cases k with
          | int z =>
            simp only [q] at P3
            cases hj : ixN ds.length z with
            | none => simp only [hj] at P3; exact P3.elim
            | some j => simp only [hj] at P3; exact fin rfl rfl rfl hj (by rw [q]; exact P3)
          | _ => simp only [q] at P3; exact P3.elim
        | _ => simp only [q] at P3; exact P3.elim
      | un => simp only [q] at P3; exact P3.elim
      | fz _ => simp only [q] at P3; exact P3.elim
      | dp _ _ => simp only [q] at P3; exact P3.elim
  exact go vo0 ev0
def contR : Option Slot → Option D
  | some (.ow d) => some d
  | some (.io d) => some d
  | some (.fz d) => some d
  | _ => none
theorem Lv.cont {F : Fr} {ρ : Env} {σ : St} {B H : Hp} {i : Nat} {d : D} {v : V} (L : Lv K F ρ σ B H) (h : contR ρ[i]? = some d) (ev : σ[i]? = some (some v)) : ∃ B2, Ex B B2 ∧ Ex B2 H ∧ Fz K B2 v d ∧ (∀ ds, d = .lst ds → ∃ a vs, v = .ref a ∧ H a = some (.lst vs) ∧ Fzs K B vs ds) := by
  have own : ∀ {s : Slot}, ρ[i]? = some s → flat s = true → s.dat = d → ∃ B2, Ex B B2 ∧ Ex B2 H ∧ Fz K B2 v d ∧ (∀ ds, d = .lst ds → ∃ a vs, v = .ref a ∧ H a = some (.lst vs) ∧ Fzs K B vs ds) := by
    intro s q ho hd
    obtain ⟨a, e1, w, g⟩ := L.ow i s q ho
    rw [ev] at e1; injection e1 with e1; injection e1 with e1; subst e1
    rw [hd] at w
    obtain ⟨o, h1, h2⟩ := w.fz
    refine ⟨_, Ex.new w.hid, fun b u q => ?_, h2, fun ds z => ?_⟩
    · by_cases hb : b = a
      · subst hb; rw [upd_same] at q; rw [h1]; exact q
      · rw [upd_ne hb] at q; exact L.ex b u q
    · subst z
      obtain ⟨_, vs, h3, fs⟩ := w
      exact ⟨a, vs, rfl, h3, fs⟩
  cases q : ρ[i]? with
  | none => rw [q] at h; cases h
  | some s =>
    rw [q] at h
    cases s with
    | un => cases h
    | dp _ _ => cases h
    | ow d' => injection h with h; exact own q rfl h
    | io d' => injection h with h; exact own q rfl h
    | fz d' =>
      injection h with h; subst h
      obtain ⟨v', e1, f⟩ := L.fz i _ q
      rw [ev] at e1; injection e1 with e1; injection e1 with e1; subst e1
      refine ⟨B, Ex.refl _, L.ex, f, fun ds z => ?_⟩
      subst z
      cases f with
      | lst h1 fs => exact ⟨_, _, rfl, L.ex _ _ h1, fs⟩
def dIxL : D → D → Option D
  | .lst ds, .int i => L2.atI ds i
  | _, _ => none
def mPeek (i : Nat) (fk : M D) : M D := M.bind (chk i) fun _ => M.bind fk fun k ρ => match (contR ρ[i]?).bind fun d => dIxL d k with
  | some z => .ok z ρ
  | none => .fail
theorem ev_peek {i : Nat} {x : Str} {kx : Expr} {px : Pos} {fk : M D} (hk : EV X W kx fk) (hN : X.N[i]? = some x := by rfl) (hv : Vis X.env.scope x := by first | exact Or.inl rfl | exact Or.inr (Or.inl rfl) | exact Or.inr (Or.inr rfl)) (hd : (x == ("__debug__" : Str)) = false := by decide)
    (hcd : (x == ("__classdict__" : Str)) = false := by decide) (hs : PlainIx kx := by exact fun _ _ => rfl) : EV X W (.Subscript (.Name x px) kx pos) (mPeek i fk) := by
  intro F ρ σ B H Q L P
  refine PE.we (pe_ix ix_list (pe_var hN hv hd hcd) pe_we hs) ?_
  have P0 : Post X W F σ B ((M.bind (chk i) fun _ => M.bind fk fun k ρ => match (contR ρ[i]?).bind fun d => dIxL d k with
    | some z => .ok z ρ
    | none => Rs.fail) ρ) (fun d _ B' H' => ∀ v, Fz X.K B' v d → Q v H') := P
  have hne : chk i ρ ≠ .fail := fun z => by unfold M.bind at P0; simp only [z] at P0; exact P0.elim
  obtain ⟨hck, vo, ev⟩ := L.chk (α := Unit) hne
  unfold M.bind at P0
  simp only [hck] at P0
  refine ⟨vo, ev, hk F ρ σ B H _ L ((Post.bind P0).imp fun k ρ2 B2 H2 e2 L2 P3 u fu => ?_)⟩
  cases q : contR ρ2[i]? with
  | none => simp only [q, Option.bind_none] at P3; exact P3.elim
  | some d =>
    simp only [q, Option.bind_some] at P3
    cases q2 : dIxL d k with
    | none => simp only [q2] at P3; exact P3.elim
    | some z =>
      simp only [q2] at P3
      obtain ⟨B3, _, _, _, hl⟩ := L2.cont q ev
      unfold dIxL at q2
      split at q2
      · obtain ⟨a, vs, rfl, h1, fs⟩ := hl _ rfl
        cases fu
        obtain ⟨v, h3, h4⟩ := fs.atI q2
        exact ⟨a, vs, _, v, rfl, rfl, .inl (.inl h1), h3, P3 B2 H2 (Ex.refl _) L2 v h4⟩
      · cases q2
def scalD : D → Bool
  | .non => true
  | .bl _ => true
  | .int _ => true
  | .str _ => true
  | _ => false
theorem Fz.scal {B B' : Hp} {v : V} {d : D} (h : Fz K B v d) (s : scalD d = true) : Fz K B' v d := by
  cases h with
  | non => exact .non
  | bl b => exact .bl b
  | int i => exact .int i
  | str x => exact .str x
  | lst _ _ => cases s
  | tup _ _ => cases s
  | scr _ => cases s
  | dic _ _ _ => cases s
  | dct _ _ _ => cases s
  | obj _ => cases s
  | key _ => cases s
def mBinL (g : D → D → Option D) (i : Nat) (f2 : M D) : M D := M.bind (chk i) fun _ => M.bind f2 fun y ρ => match (contR ρ[i]?).bind fun d => g d y with
  | some z => if scalD z = true then .ok z ρ else .fail
  | none => .fail
def mLenL (i : Nat) : M D := M.bind (chk i) fun _ ρ => match (contR ρ[i]?).bind fun d => dLen [d] with
  | some z => .ok z ρ
  | none => .fail
theorem dLen_scal {ds : List D} {d : D} (h : dLen ds = some d) : scalD d = true := by
  unfold dLen at h
  split at h
  · injection h with h; subst h; rfl
  · injection h with h; subst h; rfl
  · injection h with h; subst h; rfl
  · split at h
    · cases h
    · injection h with h; subst h; rfl
  · cases h
theorem ev_lenL {i : Nat} {x : Str} {px : Pos} (hm : X.mg "len" = none) (hN : X.N[i]? = some x := by rfl) (hv : Vis X.env.scope x := by first | exact Or.inl rfl | exact Or.inr (Or.inl rfl) | exact Or.inr (Or.inr rfl)) (hd : (x == ("__debug__" : Str)) = false := by decide)
    (hcd : (x == ("__classdict__" : Str)) = false := by decide) (hg : Gl X "len" := by rfl) (he : starEach (.Name x px :: []) X.env = (false, eval (.Name x px) X.env) :: starEach [] X.env := by rfl) : EV X W (.Call (.Name "len" p) [.Name x px] [] pos) (mLenL i) := by
  intro F ρ σ B H Q L P
  refine PE.we (pe_callB call_len hg hm PySem.boot_len (pa_cons (pe_var hN hv hd hcd) pa_nil he) (by decide) (by decide) he rfl) ?_
  have P0 : Post X W F σ B ((M.bind (chk i) fun _ ρ => match (contR ρ[i]?).bind fun d => dLen [d] with
    | some z => .ok z ρ
    | none => Rs.fail) ρ) (fun d _ B' H' => ∀ v, Fz X.K B' v d → Q v H') := P
  have hne : chk i ρ ≠ .fail := fun z => by unfold M.bind at P0; simp only [z] at P0; exact P0.elim
  obtain ⟨hck, vo, ev⟩ := L.chk (α := Unit) hne
  unfold M.bind at P0
  simp only [hck] at P0
  refine ⟨vo, ev, ?_⟩
  cases q : contR ρ[i]? with
  | none => simp only [q, Option.bind_none] at P0; exact P0.elim
  | some d =>
    simp only [q, Option.bind_some] at P0
    cases q2 : dLen [d] with
    | none => simp only [q2] at P0; exact P0.elim
    | some z =>
      simp only [q2] at P0
      obtain ⟨B3, e3, e4, f3, hl⟩ := L.cont q ev
      exact cd_len [vo] [d] z B3 H Q e4 (.cons f3 .nil) q2 ⟨fun v fv => P0 B H (Ex.refl _) L v (fv.scal (dLen_scal q2)), fun p o v hp fv => P0 _ _ (Ex.new (L.ex.nn hp)) (L.alloc hp) v (fv.scal (dLen_scal q2))⟩
theorem lt_line {n : Nat} (h : n < 10000) : n < sizeLine := Nat.lt_of_lt_of_le h (by decide)
end
end Dt
namespace Dt
open PySem PySem.Spec PyProof.Rows L2
abbrev veTail : List Value := [.type "ValueError", .type "Exception", .type "BaseException", .type "object"]
def ExC (K : PySem.W.Frag) (mg : Str → Option Value) (x : Str) : Prop := ∃ C, mg x = some (.ref C) ∧ PySem.W.excIn K C veTail "ValueError.__new__" = true ∧ PySem.W.keepIn K (.ref C) = true ∧
  PySem.W.subIn K (.ref C) (.type "BaseException") = some true ∧ PySem.W.typeIn K (.ref C) = some (.type "type")
theorem sv_raise {X : Cx} {W : WX} {x m : Str} {j : Nat} {p p2 p3 pos : Pos} (hc : X.calm = true) (tk : Takes X W) (T : ExC X.K X.mg x) (hg : Gl X x := by rfl) (hdb : (x == ("__debug__" : Str)) = false := by decide) :
    SV X W (.Raise (some (.Call (.Name x p) [.Constant (.str m) j p2] [] p3)) none pos) (M.raise x) := by
  obtain ⟨C, gC, xC, kC, bC, tC⟩ := T
  intro F ρ σ B H N L P
  refine PS.ws (ps_raise hc tk (pmk_own PySem.F.excBase_ValueError xC gC kC (raises_own bC tC) hg hdb)) ?_
  have h := P σ B H (Ex.refl _) L
  unfold cv at h
  rw [gC] at h
  exact h
def FnIn (K : PySem.W.Frag) (mg : Str → Option Value) (x : Str) (st : Stmt) : Prop := ∃ f fd, Fun K x x st f fd ∧ mg x = some (.ref f)
def Ok (P : Program) (w : World) (K : PySem.W.Frag) (mg : Str → Option Value) (base : Heap) (x : Str) (k n : Nat) (m : Option Nat) (g : List D → Rf) : Prop :=
  ∃ f fd ps, mg x = some (.ref f) ∧ PySem.W.keepIn K (.ref f) = true ∧ Binds K fd ps [] ∧ FnG P w K mg base k f fd ps (spF K mg n m g)
theorem ok_mk {P : Program} {w : World} {K : PySem.W.Frag} {mg : Str → Option Value} {base : Heap} {x : Str} {st : Stmt} {N ps : List Str} {k : Nat} {m : Option Nat} {fb : M Fl} (T : FnIn K mg x st) (S : FnScope N ps (defScope st)) (hps : ps.length ≤ N.length)
    (hb : ∀ (kV doc pm : Value) (an : Option Addr) (cdv ct : Value) (us : List Value), us.length = ps.length → bindArgs (PySem.W.fnOf x x (defArgs st) (defBody st) (defScope st) .none kV doc pm an cdv ct) ⟨us, []⟩ = pure (ps.zip us))
    (hbody : ∀ (f : Addr) (cdv : Value) (A : Around) (outer : List PySem.Env) (s : Shared) (H : Hp) (E : XK), Quiet P base (A.deeper (envOfC x (defScope st) s.heap.objs.size f cdv)) → Room k (A.deeper (envOfC x (defScope st) s.heap.objs.size f cdv)) →
      Takes (cxOf (L2.CX P w) P w K mg base N x (defScope st) f cdv A outer s H E) (fun cls d _ H => E cls d H) →
      PassesOwn (model P w) (A.deeper (envOfC x (defScope st) s.heap.objs.size f cdv)) (envOfC x (defScope st) s.heap.objs.size f cdv) (cxOf (L2.CX P w) P w K mg base N x (defScope st) f cdv A outer s H E).xe →
      SVs (cxOf (L2.CX P w) P w K mg base N x (defScope st) f cdv A outer s H E) (fun cls d _ H => E cls d H) (defBody st) fb) : Ok P w K mg base x (k + 1) ps.length m (runF m N.length fb) := by
  obtain ⟨f, fd, F, hm⟩ := T
  exact ⟨f, fd, ps, hm, F.kp, F.binds hb, fn_def F S hps fun cdv A outer s H E gd hr => hbody f cdv A outer s H E gd hr (takes_of rfl rfl rfl rfl) (passes_of rfl)⟩
theorem ok_at {P : Program} {w : World} {K : PySem.W.Frag} {mg : Str → Option Value} {base : Heap} {x : Str} {st : Stmt} {N ps : List Str} {k : Nat} {m : Option Nat} {fb : M Fl} {f : Addr} {fd : FuncData} (F : Fun K x x st f fd) (S : FnScope N ps (defScope st)) (hps : ps.length ≤ N.length)
    (hbody : ∀ (f : Addr) (cdv : Value) (A : Around) (outer : List PySem.Env) (s : Shared) (H : Hp) (E : XK), Quiet P base (A.deeper (envOfC x (defScope st) s.heap.objs.size f cdv)) → Room k (A.deeper (envOfC x (defScope st) s.heap.objs.size f cdv)) →
      Takes (cxOf (L2.CX P w) P w K mg base N x (defScope st) f cdv A outer s H E) (fun cls d _ H => E cls d H) →
      PassesOwn (model P w) (A.deeper (envOfC x (defScope st) s.heap.objs.size f cdv)) (envOfC x (defScope st) s.heap.objs.size f cdv) (cxOf (L2.CX P w) P w K mg base N x (defScope st) f cdv A outer s H E).xe →
      SVs (cxOf (L2.CX P w) P w K mg base N x (defScope st) f cdv A outer s H E) (fun cls d _ H => E cls d H) (defBody st) fb) : FnG P w K mg base (k + 1) f fd ps (spF K mg ps.length m (runF m N.length fb)) :=
  fn_def F S hps fun cdv A outer s H E gd hr => hbody f cdv A outer s H E gd hr (takes_of rfl rfl rfl rfl) (passes_of rfl)
theorem eo_fn {X : Cx} {W : WX} {x : Str} {k j n : Nat} {m : Option Nat} {g : List D → Rf} {e : Expr} {es : List Expr} {p pos : Pos} {fa : M (List AV)} (G : Ok X.prog X.w X.K X.mg X.base x k n m g) (gd : Quiet X.prog X.base X.A) (hr : Room j X.A) (tk : Takes X W) (ha : EX X W (e :: es) fa) (hk : k ≤ j := by decide) (hg : Gl X x := by rfl) (hdb : (x == ("__debug__" : Str)) = false := by decide)
    (he : starEach (e :: es) X.env = (false, eval e X.env) :: starEach es X.env := by exact star_un rfl) (hpl : (backTo pos (starEach es X.env)).any (·.1) = false := by rfl) : EO X W (.Call (.Name x p) (e :: es) [] pos) (mCallN n m g fa) := by
  obtain ⟨f, fd, ps, hm, kp, hb, G⟩ := G
  exact eo_call G gd (hr.mono hk) tk hm kp hb ha hg hdb he hpl
def spL (K : PySem.W.Frag) (n : Nat) : Sp := fun vs H Q _ => ∃ (a : Addr) (ns : List Int), vs = [.ref a] ∧ SqL K H a (ns.map V.int) ∧ ns.length ≤ n ∧ (∀ z ∈ ns, Builtin.Int.intBits z ≤ 1048576) ∧ ∀ H', Q (.bl true) H'
theorem law_of {P : Program} {w : World} {K : PySem.W.Frag} {mg : Str → Option Value} {base : Heap} {k n : Nat} {f : Addr} {fd : FuncData} {ps : List Str} {g : List D → Rf} (G : FnG P w K mg base k f fd ps (spF K mg 1 none g))
    (h : ∀ ns : List Int, ns.length ≤ n → (∀ z ∈ ns, Builtin.Int.intBits z ≤ 1048576) → g [.scr ns] = .ok (.bl true) .ff .non) : FnG P w K mg base k f fd ps (spL K n) := by
  refine G.imp fun vs H Q E q => ?_
  obtain ⟨a, ns, rfl, hS, hl, hb, q⟩ := q
  refine ⟨H, [.scr ns], 0, Ex.refl _, .fz (.scr hS) .nil, rfl, ?_⟩
  rw [h ns hl hb]
  intro v B' H' _ _ rv
  cases rv
  exact q H'
end Dt
namespace Dt
open PySem PySem.Spec PyProof.Rows L2
def wipeE (ρ : Env) : List Nat → Env
  | [] => ρ
  | v :: vs => (wipeE ρ vs).set v .un
theorem wipeE_len (ρ : Env) : ∀ vs : List Nat, (wipeE ρ vs).length = ρ.length
  | [] => rfl
  | v :: vs => by unfold wipeE; rw [List.length_set, wipeE_len ρ vs]
section
variable {K : PySem.W.Frag} {F : Fr} {ρ ρ' : Env} {σ σ' : St} {B H B' H' : Hp}
theorem Lv.wipe (L : Lv K F ρ σ B H) : ∀ vs : List Nat, Lv K F (wipeE ρ vs) (L2.wipe σ vs) B H
  | [] => L
  | v :: vs => by
    have L1 := Lv.wipe L vs
    unfold wipeE L2.wipe
    generalize wipeE ρ vs = r at *
    generalize L2.wipe σ vs = s at *
    have sg : ∀ {j : Nat}, j ≠ v → (s.set v none)[j]? = s[j]? := fun {j} h => List.getElem?_set_ne (Ne.symm h)
    refine L1.few (by rw [List.length_set, List.length_set]; exact L1.len) (fun j d e1 => ?_) (fun j t e1 w1 => ?_)
    · rcases get_set e1 with ⟨rfl, z, l⟩ | ⟨n, e1⟩
      · cases z
      · rw [sg n]; exact L1.fz j d e1
    · rcases get_set e1 with ⟨rfl, z, l⟩ | ⟨n, e1⟩
      · rw [z] at w1; cases w1
      · exact ⟨e1, sg n⟩
theorem wipeE_get {ρ : Env} {j : Nat} {s : Slot} : ∀ {vs : List Nat}, (wipeE ρ vs)[j]? = some s → s = .un ∨ (j ∉ vs ∧ ρ[j]? = some s)
  | [], e => .inr ⟨by simp, e⟩
  | v :: vs, e => by
    rcases get_set e with ⟨rfl, z, l⟩ | ⟨n, e⟩
    · exact .inl z
    · rcases wipeE_get e with z | ⟨h, z⟩
      · exact .inl z
      · exact .inr ⟨fun q => (List.mem_cons.mp q).elim n h, z⟩
theorem Lv.unwipe {vs : List Nat} (L : Lv K F ρ (L2.wipe σ vs) B H) : Lv K F (wipeE ρ vs) σ B H := by
  have sg : ∀ {j : Nat}, j ∉ vs → (L2.wipe σ vs)[j]? = σ[j]? := fun {j} h => wipe_out h
  have own : ∀ {j : Nat} {s : Slot}, (wipeE ρ vs)[j]? = some s → owned s = true → j ∉ vs ∧ ρ[j]? = some s := fun {j s} e w => by
    rcases wipeE_get e with z | h
    · rw [z] at w; cases w
    · exact h
  refine L.few (by rw [wipeE_len, L.len, wipe_length]) (fun j d e1 => ?_) (fun j t e1 w1 => ?_)
  · rcases wipeE_get e1 with z | ⟨h, e1⟩
    · cases z
    · rw [← sg h]; exact L.fz j d e1
  · obtain ⟨h, e1⟩ := own e1 w1
    exact ⟨e1, (sg h).symm⟩
end
section
variable {X : Cx} {W : WX}
structure Wts (X : Cx) (ifs : List Expr) (σ : St) (H : Hp) (Q : Bool → Hp → Prop) : Prop where
  run : ∀ (pins : List (Addr × Obj)) (s : Shared), Inv X pins σ H s →
  wpAny (model X.prog X.w) X.A (forIn ifs true fun c r => if r = true then do let ok ← isTrue c X.env (eval c X.env); pure (ForInStep.yield ok) else pure (ForInStep.yield r)) (TP X pins σ Q) X.xe s
def wts (X : Cx) (ifs : List Expr) : TT := Wts X ifs
theorem PTs.wts {ifs : List Expr} {t : TT} {σ : St} {H : Hp} {Q : Bool → Hp → Prop} (h : PTs X ifs t) (q : t σ H Q) : wts X ifs σ H Q := Wts.mk fun pins s I => h.run pins s σ H Q I q
def ETs (X : Cx) (W : WX) (ifs : List Expr) (f : M Bool) : Prop := ∀ (F : Fr) (ρ : Env) (σ : St) (B H : Hp) (Q : Bool → Hp → Prop), Lv X.K F ρ σ B H →
  Post X W F σ B (f ρ) (fun b _ _ H' => Q b H') → wts X ifs σ H Q
theorem ets_nil : ETs X W [] (M.pure true) := fun F ρ σ B H Q L P => PTs.wts pts_nil (P B H (Ex.refl _) L)
theorem ets_one {c : Expr} {f : M Bool} (h : ET X W c f) : ETs X W [c] f := fun F ρ σ B H Q L P => PTs.wts (pts_one pt_wt) (h F ρ σ B H Q L P)
end
abbrev W0 : WX := fun _ _ _ _ => False
def mNoR {α : Type} (f : M α) : M α := fun ρ => match f ρ with
  | .ok a ρ' => .ok a ρ'
  | _ => .fail
def mLcL (own : List Nat) (g : D → Env → Option Env) (t : M Bool) (e : M D) : List D → List D → M (List D)
  | [], acc => M.pure acc
  | d :: r, acc => fun ρ => match g d ρ with
    | none => .fail
    | some ρ1 => M.bind (mNoR t) (fun k => match k with
      | false => fun ρ2 => mLcL own g t e r acc (wipeE ρ2 own)
      | true => M.bind (mNoR e) fun y ρ2 => if acc.length < 10000 then mLcL own g t e r (acc ++ [y]) (wipeE ρ2 own) else .fail) ρ1
def mLc (own : List Nat) (f : M (List D)) (g : D → Env → Option Env) (t : M Bool) (e : M D) : M (D × Ob) := M.bind f fun ds ρ => match mLcL own g t e ds [] (wipeE ρ own) with
  | .ok acc ρ2 => .ok (.lst acc, .tt) (wipeE ρ2 own)
  | _ => .fail
def obMk : Ob → D → Option Mk
  | .ff, _ => some .z
  | .tt, .lst _ => some (.l .z)
  | .tt, _ => none
  | .dp m, _ => some m
  | .al, _ => none
noncomputable instance : DecidableEq Mk := fun a b => Classical.propDecidable (a = b)
noncomputable def mLcG (own : List Nat) (g : D → Env → Option Env) (t : M Bool) (e : M (D × Ob)) (m : Mk) : List D → List D → M (List D)
  | [], acc => M.pure acc
  | d :: r, acc => fun ρ => match g d ρ with
    | none => .fail
    | some ρ1 => M.bind (mNoR t) (fun k => match k with
      | false => fun ρ2 => mLcG own g t e m r acc (wipeE ρ2 own)
      | true => M.bind (mNoR e) fun y ρ2 => if acc.length < 10000 ∧ obMk y.2 y.1 = some m then mLcG own g t e m r (acc ++ [y.1]) (wipeE ρ2 own) else .fail) ρ1
noncomputable def mLcD (own : List Nat) (m : Mk) (f : M (List D)) (g : D → Env → Option Env) (t : M Bool) (e : M (D × Ob)) : M (D × Ob) := M.bind f fun ds ρ => match mLcG own g t e m ds [] (wipeE ρ own) with
  | .ok acc ρ2 => .ok (.lst acc, .dp (.l m)) (wipeE ρ2 own)
  | _ => .fail
theorem mLcG_z {own : List Nat} {g : D → Env → Option Env} {t : M Bool} {e : M D} : ∀ (ds acc : List D) (ρ : Env), mLcG own g t (mOf e) .z ds acc ρ = mLcL own g t e ds acc ρ
  | [], acc, ρ => rfl
  | d :: r, acc, ρ => by
    unfold mLcG mLcL
    cases g d ρ with
    | none => rfl
    | some ρ1 =>
      simp only
      unfold M.bind
      cases mNoR t ρ1 with
      | rz c ρ2 => rfl
      | fail => rfl
      | ok k ρ2 =>
        simp only
        cases k with
        | false => exact mLcG_z r acc _
        | true =>
          simp only
          unfold mNoR mOf M.bind
          cases e ρ2 with
          | rz c ρ3 => rfl
          | fail => rfl
          | ok y ρ3 =>
            simp only [M.pure, obMk, and_true]
            split
            · exact mLcG_z r (acc ++ [y]) _
            · rfl
theorem VO.tr {K : PySem.W.Frag} {F : Fr} {ρ : Env} {σ : St} {B H : Hp} {v : V} {d : D} {o : Ob} {m : Mk} (w : VO K F ρ σ B H v d o) (h : obMk o d = some m) : ∃ S, Tr K B H m v d S ∧ S.Nodup ∧ ∀ a ∈ S, (F.A a ∨ F.H0 a = none) ∧ ¬ OwS K B H ρ σ a := by
  cases o with
  | ff => injection h with h; subst h; exact ⟨[], by unfold Tr; exact ⟨w, rfl⟩, .nil, fun a q => nomatch q⟩
  | tt =>
    cases d with
    | lst ds =>
      injection h with h; subst h
      obtain ⟨a, rfl, ⟨hb, vs, hv, fs⟩, g, no⟩ := w
      refine ⟨[a], ?_, by simp, fun b hb => by rw [List.mem_singleton.mp hb]; exact ⟨g, no⟩⟩
      unfold Tr
      refine ⟨a, vs, ds, [], rfl, rfl, hb, hv, ?_, rfl⟩
      have : ∀ {vs : List V} {ds : List D}, Fzs K B vs ds → Its (Tr K B H .z) vs ds [] := fun {vs ds} fs => by
        induction vs generalizing ds with
        | nil => cases fs; exact .nil
        | cons v vs ih =>
          cases fs with
          | cons f fs => exact .cons (S := []) (T := []) (by unfold Tr; exact ⟨f, rfl⟩) (ih fs)
      exact this fs
    | _ => cases h
  | dp m' => injection h with h; subst h; exact w
  | al => cases h
theorem Its.z {K : PySem.W.Frag} {B H : Hp} {vs : List V} {ds : List D} {S : List Addr} (h : Its (Tr K B H .z) vs ds S) : Fzs K B vs ds ∧ S = [] := by
  induction h with
  | nil => exact ⟨.nil, rfl⟩
  | cons a t ih =>
    unfold Tr at a
    exact ⟨.cons a.1 ih.1, by rw [a.2, ih.2]; rfl⟩
theorem VO.flat {K : PySem.W.Frag} {F : Fr} {ρ : Env} {σ : St} {B H : Hp} {v : V} {d : D} (w : VO K F ρ σ B H v d (.dp (.l .z))) : VO K F ρ σ B H v d .tt := by
  obtain ⟨S, t, nd, g⟩ := w
  unfold Tr at t
  obtain ⟨a, vs, ds, T, rfl, rfl, hb, hv, i, rfl⟩ := t
  obtain ⟨fs, rfl⟩ := i.z
  obtain ⟨g1, g2⟩ := g a (by simp)
  exact ⟨a, rfl, ⟨hb, vs, hv, fs⟩, g1, g2⟩
theorem Its.app {R : V → D → List Addr → Prop} {vs : List V} {ds : List D} {S T : List Addr} {v : V} {d : D} (h : Its R vs ds S) (r : R v d T) : Its R (vs ++ [v]) (ds ++ [d]) (S ++ T) := by
  induction h with
  | nil => exact (by simpa using Its.cons r .nil)
  | cons a t ih =>
    rw [List.append_assoc]
    exact .cons a ih
theorem wipe_onl {is vs : List Nat} {σ σ' : St} (h : Onl is (L2.wipe σ vs) σ') (hs : ∀ i ∈ is, i ∈ vs) : L2.wipe σ' vs = L2.wipe σ vs := by
  apply List.ext_getElem?
  intro j
  by_cases hj : j ∈ vs
  · have e : ∀ (τ : St) (ws : List Nat), j ∈ ws → (L2.wipe τ ws)[j]? = if j < τ.length then some none else none := by
      intro τ ws
      induction ws with
      | nil => intro z; cases z
      | cons w ws ih =>
        intro z
        unfold L2.wipe
        by_cases hw : w = j
        · subst hw
          by_cases l : w < τ.length
          · rw [List.getElem?_set_self (by rw [wipe_length]; exact l), if_pos l]
          · rw [List.getElem?_eq_none (by rw [List.length_set, wipe_length]; omega), if_neg l]
        · rw [List.getElem?_set_ne hw]
          exact ih ((List.mem_cons.mp z).resolve_left (fun q => hw q.symm))
    rw [e σ' vs hj, e σ vs hj, h.1, wipe_length]
  · rw [wipe_out hj, h.2 j (fun z => hj (hs j z))]
def gB (X : Cx) (scope : Scope) (tg : Expr) : TG := fun v σ H Q => ∀ (s : Shared) (H0 : Hp) (C : Addr) (cl : List (Str × Addr)) (fp : List Addr), wg (X.blk s H0 scope (compEnvC scope cl C X.env) fp) tg v σ H Q
def tsB (X : Cx) (scope : Scope) (ifs : List Expr) : TT := fun σ H Q => ∀ (s : Shared) (H0 : Hp) (C : Addr) (cl : List (Str × Addr)) (fp : List Addr), wts (X.blk s H0 scope (compEnvC scope cl C X.env) fp) ifs σ H Q
def eB (X : Cx) (scope : Scope) (elt : Expr) : TE := fun σ H Q => ∀ (s : Shared) (H0 : Hp) (C : Addr) (cl : List (Str × Addr)) (fp : List Addr), we (X.blk s H0 scope (compEnvC scope cl C X.env) fp) elt σ H Q
section
variable {X : Cx} {W : WX} {elt tg iter : Expr} {ifs : List Expr} {scope : Scope} {own : List (Str × Nat)} {pos : Pos} {is : List Nat} {f : M (List D)} {g : D → Env → Option Env} {t : M Bool} {e : M D}
theorem lcG_at {m : Mk} {e : M (D × Ob)}
    (hg : ∀ (s : Shared) (H : Hp) (C : Addr) (cl : List (Str × Addr)) (fp : List Addr), GV (X.blk s H scope (compEnvC scope cl C X.env) fp) tg is g)
    (ht : ∀ (s : Shared) (H : Hp) (C : Addr) (cl : List (Str × Addr)) (fp : List Addr), ETs (X.blk s H scope (compEnvC scope cl C X.env) fp) W0 ifs t)
    (he : ∀ (s : Shared) (H : Hp) (C : Addr) (cl : List (Str × Addr)) (fp : List Addr), EO (X.blk s H scope (compEnvC scope cl C X.env) fp) W0 elt e)
    (his : ∀ i ∈ is, i ∈ own.map (·.2)) {F : Fr} {ρ : Env} {σ : St} {B H : Hp} {Q : VK} (hi : ∀ R, Post X W F σ B (f ρ) (fun ds _ B' H' => ∀ J, ItOk X.K J B' ds → R J H') → wi X tg iter σ H R) (L : Lv X.K F ρ σ B H)
    (P : Post X W F σ B (mLcD (own.map (·.2)) m f g t e ρ) (fun p ρ' B' H' => ∀ v, VO X.K F ρ' σ B' H' v p.1 p.2 → Q v H')) : tLc (wi X tg iter) (gB X scope tg) (tsB X scope ifs) (eB X scope elt) (own.map (·.2)) σ H Q := by
  generalize hvs : own.map (·.2) = vs at *
  refine hi _ ((Post.bind P).imp fun ds ρ1 B1 H1 e1 L1 P1 J hJ Dl hD => ?_)
  have Lw : Lv X.K F (wipeE ρ1 vs) (L2.wipe σ vs) B1 H1 := L1.wipe vs
  -- what is wanted of the block's outcome
  let PC : Rs (List D) → Prop := fun r => match r with
    | .ok acc ρ2 => ∀ B' H', Ex B1 B' → Lv X.K F (wipeE ρ2 vs) σ B' H' → ∀ v, VO X.K F (wipeE ρ2 vs) σ B' H' v (.lst acc) (.dp (.l m)) → Q v H'
    | _ => False
  have PC0 : PC (mLcG vs g t e m ds [] (wipeE ρ1 vs)) := by
    have P2 : Post X W F σ B1 ((match mLcG vs g t e m ds [] (wipeE ρ1 vs) with
      | .ok acc ρ2 => .ok (.lst acc, .dp (.l m)) (wipeE ρ2 vs)
      | _ => .fail) : Rs (D × Ob)) _ := P1
    cases q : mLcG vs g t e m ds [] (wipeE ρ1 vs) with
    | ok acc ρ2 => rw [q] at P2; exact fun B' H' e' L' v w => P2 B' H' e' L' v w
    | rz c ρ2 => rw [q] at P2; exact P2.elim
    | fail => rw [q] at P2; exact P2.elim
  have nD0 : ¬ OwS X.K B1 H1 (wipeE ρ1 vs) (L2.wipe σ vs) Dl := fun z => (Lw.hidOw z).2.ne hD
  let G : Fr := ⟨B1, H1, OwS X.K B1 H1 (wipeE ρ1 vs) (L2.wipe σ vs), F.P⟩
  -- the list so far
  let IN : List D → Hp → Prop := fun r H' => ∃ ρ' B' acc xs S, Lv X.K G ρ' (L2.wipe σ vs) B' H' ∧ H' Dl = some (.lst xs) ∧ B' Dl = none ∧ Its (Tr X.K B' H' m) xs acc S ∧ (Dl :: S).Nodup ∧ (∀ a ∈ Dl :: S, (G.A a ∨ G.H0 a = none) ∧ ¬ OwS X.K B' H' ρ' (L2.wipe σ vs) a) ∧ PC (mLcG vs g t e m r acc ρ')
  have IN0 : IN ds (upd H1 Dl (.lst [])) := by
    refine ⟨wipeE ρ1 vs, B1, [], [], [], Lw.nest.allocO hD, upd_same, L1.ex.nn hD, .nil, by simp, fun a ha => ?_, PC0⟩
    rw [List.mem_singleton.mp ha]
    exact ⟨.inr hD, fun z => nD0 (z.chg Lw.nest nD0)⟩
  refine ⟨fun i k H' => k = ds.length - i ∧ i ≤ ds.length ∧ IN (ds.drop i) H', ⟨ds.length, by simp, Nat.zero_le _, IN0⟩, ?_⟩
  rintro i k H2 ⟨rfl, hi2, ρ2, B2, acc, xs, S, M2, hl, hb, fs, nd, ga, P2⟩
  by_cases hlt : i < ds.length
  · refine .inr ⟨hJ.go B2 H2 i M2.exB M2.ex hlt, IN (ds.drop (i + 1)), fun H' q => ⟨ds.length - (i + 1), by omega, rfl, hlt, q⟩, fun x H3 hy => ?_⟩
    rw [List.drop_eq_getElem_cons hlt] at P2
    have hd : ds[i]? = some ds[i] := List.getElem?_eq_getElem hlt
    generalize ds[i] = d at *
    generalize ds.drop (i + 1) = r at *
    have fin : ∀ (B3 : Hp), Ex B2 B3 → Lv X.K G ρ2 (L2.wipe σ vs) B3 H3 → H3 Dl = some (.lst xs) → B3 Dl = none → Its (Tr X.K B3 H3 m) xs acc S → (∀ a ∈ Dl :: S, ¬ OwS X.K B3 H3 ρ2 (L2.wipe σ vs) a) → Fz X.K B3 x d →
        gB X scope tg x (L2.wipe σ vs) H3 fun σ2 H2 => L2.wipe σ2 vs = L2.wipe σ vs ∧ tsB X scope ifs σ2 H2 fun b H3 => if b = true then eB X scope elt σ2 H3 fun y H4 => ∃ acc, H4 Dl = some (.lst acc) ∧ acc.length < sizeLine ∧ IN r (upd H4 Dl (.lst (acc ++ [y]))) else IN r H3 := by
      intro B3 e3 M3 hl3 hb3 fs3 no fx s0 H0 C0 cl0 fp0
      have N3 := M3.nest
      refine hg s0 H0 C0 cl0 fp0 _ ρ2 _ B3 H3 x d _ N3 fx ?_
      have P3 : PC (match g d ρ2 with
        | none => .fail
        | some ρ1 => M.bind (mNoR t) (fun k => match k with
          | false => fun ρ2 => mLcG vs g t e m r acc (wipeE ρ2 vs)
          | true => M.bind (mNoR e) fun y ρ2 => if acc.length < 10000 ∧ obMk y.2 y.1 = some m then mLcG vs g t e m r (acc ++ [y.1]) (wipeE ρ2 vs) else .fail) ρ1) := by
        have P2' := P2
        unfold mLcG at P2'
        exact P2'
      -- what the list so far holds is there
      have thr : ∀ a ∈ Dl :: S, B3 a = none ∧ Ct H3 a := fun a ha => by
        rcases List.mem_cons.mp ha with rfl | ha
        · exact ⟨hb3, .of hl3 fun _ z => nomatch z⟩
        · exact fs3.all (fun v d T r => Tr.hid r) a ha
      cases q : g d ρ2 with
      | none => rw [q] at P3; exact P3.elim
      | some ρ3 =>
        rw [q] at P3
        intro σ4 B4 H4 on4 e4 N4
        have hw : L2.wipe σ4 vs = L2.wipe σ vs := by rw [wipe_onl (is := is) on4 his]
        -- behind the element: wiped, back in the frame
        have back : ∀ {ρ5 : Env} {B5 H5 : Hp}, Lv X.K ⟨B3, H3, OwS X.K B3 H3 ρ2 (L2.wipe σ vs), F.P⟩ ρ5 σ4 B5 H5 → Lv X.K G (wipeE ρ5 vs) (L2.wipe σ vs) B5 H5 ∧ H5 Dl = some (.lst xs) ∧ B5 Dl = none ∧ Its (Tr X.K B5 H5 m) xs acc S ∧ ∀ a ∈ Dl :: S, ¬ OwS X.K B5 H5 (wipeE ρ5 vs) (L2.wipe σ vs) a := by
          intro ρ5 B5 H5 N5
          have M5 := M3.back N5
          have M6 := M5.wipe vs
          rw [hw] at M6
          have kp : ∀ a ∈ Dl :: S, B5 a = none ∧ ∀ o, H3 a = some o → H5 a = some o := fun a ha => ⟨N5.hid a (thr a ha).1 (thr a ha).2 (no a ha), fun o q => N5.kept a o q (no a ha)⟩
          refine ⟨M6, (kp Dl (by simp)).2 _ hl3, (kp Dl (by simp)).1, fs3.imp fun v d T tr sub => tr.keep N5.exB (fun a ha => (kp a (List.mem_cons_of_mem _ (sub a ha))).1) (fun a ha => (kp a (List.mem_cons_of_mem _ (sub a ha))).2), fun a ha ⟨j, s, v, T, e1, q1, f1, m1⟩ => ?_⟩
          rcases wipeE_get e1 with z | ⟨hj, e1⟩
          · rw [z] at f1; exact f1.elim
          · rw [← hw, wipe_out hj] at q1
            rcases N5.ofOw ⟨j, s, v, T, e1, q1, f1, m1⟩ with z | z
            · exact no a ha z
            · exact (thr a ha).2.ne z
        have PP : Post X W0 ⟨B3, H3, OwS X.K B3 H3 ρ2 (L2.wipe σ vs), F.P⟩ σ4 B4 (t ρ3) (fun k ρ5 B5 H5 => Ex B4 B5 ∧ PC ((match k with
          | false => fun ρ2 => mLcG vs g t e m r acc (wipeE ρ2 vs)
          | true => M.bind (mNoR e) fun y ρ2 => if acc.length < 10000 ∧ obMk y.2 y.1 = some m then mLcG vs g t e m r (acc ++ [y.1]) (wipeE ρ2 vs) else .fail) ρ5)) := by
          have P4 : PC (M.bind (mNoR t) _ ρ3) := P3
          unfold M.bind mNoR at P4
          cases q2 : t ρ3 with
          | ok k ρ5 => rw [q2] at P4; exact fun B' H' e' _ => ⟨e', P4⟩
          | rz c ρ5 => rw [q2] at P4; exact P4.elim
          | fail => rw [q2] at P4; exact P4.elim
        refine ⟨hw, fun s1 H01 C1 cl1 fp1 => ht s1 H01 C1 cl1 fp1 _ ρ3 σ4 B4 H4 _ N4 (PP.imp fun k ρ5 B5 H5 e5 N5 ⟨_, P5⟩ => ?_)⟩
        cases k with
        | false =>
          rw [if_neg Bool.false_ne_true]
          obtain ⟨M6, h6, b6, t6, n6⟩ := back N5
          exact ⟨wipeE ρ5 vs, B5, acc, xs, S, M6, h6, b6, t6, nd, fun a ha => ⟨(ga a ha).1, n6 a ha⟩, P5⟩
        | true =>
          rw [if_pos rfl]
          have PE5 : Post X W0 ⟨B3, H3, OwS X.K B3 H3 ρ2 (L2.wipe σ vs), F.P⟩ σ4 B5 (e ρ5) (fun y ρ6 B6 H6 => (acc.length < 10000 ∧ obMk y.2 y.1 = some m) ∧ PC (mLcG vs g t e m r (acc ++ [y.1]) (wipeE ρ6 vs))) := by
            have P6 : PC (M.bind (mNoR e) (fun y ρ2 => if acc.length < 10000 ∧ obMk y.2 y.1 = some m then mLcG vs g t e m r (acc ++ [y.1]) (wipeE ρ2 vs) else .fail) ρ5) := P5
            unfold M.bind mNoR at P6
            cases q2 : e ρ5 with
            | ok y ρ6 =>
              rw [q2] at P6
              intro B' H' e' _
              have P7 : PC (if acc.length < 10000 ∧ obMk y.2 y.1 = some m then mLcG vs g t e m r (acc ++ [y.1]) (wipeE ρ6 vs) else .fail) := P6
              split at P7
              · rename_i hh; exact ⟨hh, P7⟩
              · exact P7.elim
            | rz c ρ6 => rw [q2] at P6; exact P6.elim
            | fail => rw [q2] at P6; exact P6.elim
          intro s2 H02 C2 cl2 fp2
          refine he s2 H02 C2 cl2 fp2 _ ρ5 σ4 B5 H5 _ N5 (PE5.imp fun y ρ6 B6 H6 e6 N6 ⟨hz, P7⟩ v vo => ?_)
          obtain ⟨M6, h6, b6, t6, n6⟩ := back N6
          obtain ⟨T, tr, ndT, gT⟩ := VO.tr vo hz.2
          -- what is new is apart from the list so far
          have ap : ∀ a ∈ T, a ∉ Dl :: S := fun a ha hs => by
            rcases (gT a ha).1 with z | z
            · exact no a hs z
            · exact (thr a hs).2.ne z
          have nT : ∀ a ∈ T, ¬ OwS X.K B6 H6 (wipeE ρ6 vs) (L2.wipe σ vs) a := fun a ha ⟨j, s, u, U, e1, q1, f1, m1⟩ => by
            rcases wipeE_get e1 with z | ⟨hj, e1⟩
            · rw [z] at f1; exact f1.elim
            · rw [← hw, wipe_out hj] at q1
              exact (gT a ha).2 ⟨j, s, u, U, e1, q1, f1, m1⟩
          have nD := n6 Dl (by simp)
          have M7 := M6.hidW0 (o := .lst (xs ++ [v])) b6 (ga Dl (by simp)).1 nD
          have kD : ∀ a, a ≠ Dl → ∀ o, H6 a = some o → upd H6 Dl (.lst (xs ++ [v])) a = some o := fun a n o q => by rw [upd_ne n]; exact q
          have nd1 := List.nodup_cons.mp nd
          refine ⟨xs, h6, lt_line (by rw [t6.len]; exact hz.1), wipeE ρ6 vs, B6, acc ++ [y.1], xs ++ [v], S ++ T, M7, upd_same, b6, Its.app (t6.imp fun w d U tr sub => tr.keep (Ex.refl _) (fun a ha => (tr.hid a ha).1) (fun a ha => kD a fun z => nd1.1 (z ▸ sub a ha))) (tr.keep (Ex.refl _) (fun a ha => (tr.hid a ha).1) (fun a ha => kD a fun z => ap a ha (by rw [z]; simp))), ?_, fun a ha => ?_, P7⟩
          · rw [← List.cons_append]
            exact List.nodup_append.mpr ⟨nd, ndT, fun a ha b hb z => ap b hb (z ▸ ha)⟩
          · rw [← List.cons_append] at ha
            rcases List.mem_append.mp ha with ha | ha
            · exact ⟨(ga a ha).1, fun z => n6 a ha (z.chg M6 nD)⟩
            · refine ⟨?_, fun z => nT a ha (z.chg M6 nD)⟩
              rcases (gT a ha).1 with z | z
              · exact M3.ofOw z
              · exact .inr (M3.free z)
    rcases hJ.yld B2 H2 i x H3 _ M2.exB M2.ex hy hd with ⟨rfl, fx⟩ | ⟨p, o, hp2, rfl, fx⟩ | ⟨p, ys, hp2, hp3, rfl, fx⟩
    · exact fin B2 (Ex.refl _) M2 hl hb fs (fun a ha => (ga a ha).2) fx
    · have th : ∀ a ∈ Dl :: S, B2 a = none ∧ Ct H2 a := fun a ha => by
        rcases List.mem_cons.mp ha with rfl | ha
        · exact ⟨hb, .of hl fun _ z => nomatch z⟩
        · exact fs.all (fun v d T r => Tr.hid r) a ha
      have np : ∀ a ∈ Dl :: S, a ≠ p := fun a ha z => (th a ha).2.ne (z ▸ hp2)
      have npo : ¬ OwS X.K B2 H2 ρ2 (L2.wipe σ vs) p := fun z => (M2.hidOw z).2.ne hp2
      have nB := M2.ex.nn hp2
      refine fin _ (Ex.new nB) (M2.alloc hp2) (by rw [upd_ne (np Dl (by simp))]; exact hl) (by rw [upd_ne (np Dl (by simp))]; exact hb) (fs.imp fun v d T tr sub => tr.keep (Ex.new nB) (fun a ha => by rw [upd_ne (np a (List.mem_cons_of_mem _ (sub a ha)))]; exact (tr.hid a ha).1) (fun a ha o q => by rw [upd_ne (np a (List.mem_cons_of_mem _ (sub a ha)))]; exact q)) (fun a ha z => (ga a ha).2 (z.back M2 (Ex.new nB) fun b w => ?_)) fx
      have nbp : b ≠ p := fun z => npo (z ▸ w)
      exact ⟨by rw [upd_ne nbp]; exact (M2.hidOw w).1, fun u q => by rw [upd_ne nbp]; exact q⟩
    · have th : ∀ a ∈ Dl :: S, B2 a = none ∧ Ct H3 a := fun a ha => by
        rcases List.mem_cons.mp ha with rfl | ha
        · exact ⟨hb, .of hl fun _ z => nomatch z⟩
        · exact fs.all (fun v d T r => Tr.hid r) a ha
      have nt : ∀ a, Ct H3 a → a ≠ p := fun a ⟨u, h1, h2⟩ z => by subst z; rw [hp2] at h1; injection h1 with h1; exact h2 _ h1.symm
      have np : ∀ a ∈ Dl :: S, a ≠ p := fun a ha => nt a (th a ha).2
      refine fin _ (Ex.new hp3) (M2.freezeT hp2 hp3) hl (by rw [upd_ne (np Dl (by simp))]; exact hb) (fs.imp fun v d T tr sub => tr.keep (Ex.new hp3) (fun a ha => by rw [upd_ne (np a (List.mem_cons_of_mem _ (sub a ha)))]; exact (tr.hid a ha).1) (fun a ha o q => q)) (fun a ha z => (ga a ha).2 (z.back M2 (Ex.new hp3) fun b w => ?_)) fx
      exact ⟨by rw [upd_ne (nt b (M2.hidOw w).2)]; exact (M2.hidOw w).1, fun u q => q⟩
  · have ei : i = ds.length := by omega
    subst ei
    rw [List.drop_length] at P2
    refine .inl ⟨hJ.stop B2 H2 _ M2.exB M2.ex (Nat.le_refl _), ?_⟩
    have M3 := Lw.back M2
    have M4 := M3.unwipe
    refine P2 B2 H2 M2.exB M4 _ ⟨Dl :: S, ?_, nd, fun a ha => ⟨?_, fun ⟨j, s, v, T, e1, q1, f1, m1⟩ => ?_⟩⟩
    · unfold Tr; exact ⟨Dl, xs, acc, S, rfl, rfl, hb, hl, fs, rfl⟩
    · rcases (ga a ha).1 with z | z
      · exact Lw.ofOw z
      · exact .inr (Lw.free z)
    · rcases wipeE_get e1 with z | ⟨hj, e1⟩
      · rw [z] at f1; exact f1.elim
      · rw [← wipe_out hj] at q1
        exact (ga a ha).2 ⟨j, s, v, T, e1, q1, f1, m1⟩
theorem lc_at
    (hg : ∀ (s : Shared) (H : Hp) (C : Addr) (cl : List (Str × Addr)) (fp : List Addr), GV (X.blk s H scope (compEnvC scope cl C X.env) fp) tg is g)
    (ht : ∀ (s : Shared) (H : Hp) (C : Addr) (cl : List (Str × Addr)) (fp : List Addr), ETs (X.blk s H scope (compEnvC scope cl C X.env) fp) W0 ifs t)
    (he : ∀ (s : Shared) (H : Hp) (C : Addr) (cl : List (Str × Addr)) (fp : List Addr), EV (X.blk s H scope (compEnvC scope cl C X.env) fp) W0 elt e)
    (his : ∀ i ∈ is, i ∈ own.map (·.2)) {F : Fr} {ρ : Env} {σ : St} {B H : Hp} {Q : VK} (hi : ∀ R, Post X W F σ B (f ρ) (fun ds _ B' H' => ∀ J, ItOk X.K J B' ds → R J H') → wi X tg iter σ H R) (L : Lv X.K F ρ σ B H)
    (P : Post X W F σ B (mLc (own.map (·.2)) f g t e ρ) (fun p ρ' B' H' => ∀ v, VO X.K F ρ' σ B' H' v p.1 p.2 → Q v H')) : tLc (wi X tg iter) (gB X scope tg) (tsB X scope ifs) (eB X scope elt) (own.map (·.2)) σ H Q := by
  refine lcG_at (m := .z) (e := mOf e) hg ht (fun s H C cl fp => eo_of (he s H C cl fp)) his hi L ?_
  unfold mLc M.bind at P
  unfold mLcD M.bind
  cases q : f ρ with
  | fail => rw [q] at P; exact P.elim
  | rz c ρ1 => rw [q] at P; exact P
  | ok ds ρ1 =>
    rw [q] at P
    simp only [mLcG_z] at P ⊢
    cases q2 : mLcL (own.map (·.2)) g t e ds [] (wipeE ρ1 (own.map (·.2))) with
    | ok acc ρ2 => rw [q2] at P; exact fun B' H' e' L' v w => P B' H' e' L' v w.flat
    | rz c ρ2 => rw [q2] at P; exact P.elim
    | fail => rw [q2] at P; exact P.elim
theorem lc_read (hi : IV X W tg iter f)
    (hg : ∀ (s : Shared) (H : Hp) (C : Addr) (cl : List (Str × Addr)) (fp : List Addr), GV (X.blk s H scope (compEnvC scope cl C X.env) fp) tg is g)
    (ht : ∀ (s : Shared) (H : Hp) (C : Addr) (cl : List (Str × Addr)) (fp : List Addr), ETs (X.blk s H scope (compEnvC scope cl C X.env) fp) W0 ifs t)
    (he : ∀ (s : Shared) (H : Hp) (C : Addr) (cl : List (Str × Addr)) (fp : List Addr), EV (X.blk s H scope (compEnvC scope cl C X.env) fp) W0 elt e)
    (his : ∀ i ∈ is, i ∈ own.map (·.2)) {F : Fr} {ρ : Env} {σ : St} {B H : Hp} {Q : VK} (L : Lv X.K F ρ σ B H)
    (P : Post X W F σ B (mLc (own.map (·.2)) f g t e ρ) (fun p ρ' B' H' => ∀ v, VO X.K F ρ' σ B' H' v p.1 p.2 → Q v H')) : tLc (wi X tg iter) (gB X scope tg) (tsB X scope ifs) (eB X scope elt) (own.map (·.2)) σ H Q :=
  lc_at hg ht he his (fun R P => hi F ρ σ B H R L P) L P
theorem eo_lc (hc : X.calm = true) (hN : X.N.Nodup) (hi : IV X W tg iter f) (ok : BlkOk X.N X.env.scope scope own)
    (hg : ∀ (s : Shared) (H : Hp) (C : Addr) (cl : List (Str × Addr)) (fp : List Addr), GV (X.blk s H scope (compEnvC scope cl C X.env) fp) tg is g)
    (ht : ∀ (s : Shared) (H : Hp) (C : Addr) (cl : List (Str × Addr)) (fp : List Addr), ETs (X.blk s H scope (compEnvC scope cl C X.env) fp) W0 ifs t)
    (he : ∀ (s : Shared) (H : Hp) (C : Addr) (cl : List (Str × Addr)) (fp : List Addr), EV (X.blk s H scope (compEnvC scope cl C X.env) fp) W0 elt e)
    (his : ∀ i ∈ is, i ∈ own.map (·.2) := by decide) (hs : ∀ x, foldedSetIterable iter X.env x = pure x := by intro _; rfl) : EO X W (.ListComp elt [⟨tg, iter, ifs, 0⟩] scope pos) (mLc (own.map (·.2)) f g t e) := by
  intro F ρ σ B H Q L P
  exact PE.we (pe_lc (g := gB X scope tg) (tt := tsB X scope ifs) (te := eB X scope elt) hc hN pi_wi ok (fun s H0 C cl fp => ⟨fun pins s' σ H v u Q I r h => Wg.run (h s H0 C cl fp) pins s' u I r⟩) (fun s H0 C cl fp => ⟨fun pins s' σ H Q I h => Wts.run (h s H0 C cl fp) pins s' I⟩) (fun s H0 C cl fp => ⟨fun pins s' σ H Q I h => We.run (h s H0 C cl fp) pins s' I⟩) hs) (lc_read hi hg ht he his L P)
theorem sv_setLc {i : Nat} {y : Str} {py spos : Pos} (hc : X.calm = true) (hN : X.N.Nodup) (hi : IV X W tg iter f) (ok : BlkOk X.N X.env.scope scope own)
    (hg : ∀ (s : Shared) (H : Hp) (C : Addr) (cl : List (Str × Addr)) (fp : List Addr), GV (X.blk s H scope (compEnvC scope cl C X.env) fp) tg is g)
    (ht : ∀ (s : Shared) (H : Hp) (C : Addr) (cl : List (Str × Addr)) (fp : List Addr), ETs (X.blk s H scope (compEnvC scope cl C X.env) fp) W0 ifs t)
    (he : ∀ (s : Shared) (H : Hp) (C : Addr) (cl : List (Str × Addr)) (fp : List Addr), EV (X.blk s H scope (compEnvC scope cl C X.env) fp) W0 elt e)
    (hsw : swapsWith (.ListComp elt [⟨tg, iter, ifs, 0⟩] scope pos) (some (.Name y py)) spos.line X.env = pure true)
    (hy : X.N[i]? = some y := by rfl) (hyl : X.env.scope.names.lookup y = some .local := by rfl)
    (his : ∀ i ∈ is, i ∈ own.map (·.2) := by decide) (hs : ∀ x, foldedSetIterable iter X.env x = pure x := by intro _; rfl) : SV X W (.Assign [.Name y py] (.ListComp elt [⟨tg, iter, ifs, 0⟩] scope pos) spos) (mSet i (mLc (own.map (·.2)) f g t e)) := by
  intro F ρ σ B H N L P
  refine PS.ws (ps_setLc (g := gB X scope tg) (tt := tsB X scope ifs) (te := eB X scope elt) hc hN hy hyl hsw pi_wi ok (fun s H0 C cl fp => ⟨fun pins s' σ H v u Q I r h => Wg.run (h s H0 C cl fp) pins s' u I r⟩) (fun s H0 C cl fp => ⟨fun pins s' σ H Q I h => Wts.run (h s H0 C cl fp) pins s' I⟩) (fun s H0 C cl fp => ⟨fun pins s' σ H Q I h => We.run (h s H0 C cl fp) pins s' I⟩) hs) ?_
  exact lc_read hi hg ht he his L ((PostS.bind P).imp fun p ρ1 B1 H1 e1 L1 P1 v w => P1.put L1 w)
end
end Dt
namespace Dt
open PySem PySem.Spec PyProof.Rows L2
section
variable {X : Cx} {W : WX} {e a b c : Expr} {pos : Pos} {K : PySem.W.Frag}
def CnIn (K : PySem.W.Frag) (mg : Str → Option Value) (x : Str) (d : D) : Prop := ∃ u v, mg x = some u ∧ RelV v u ∧ ∀ B, Fz K B v d
theorem ev_const {x : Str} {d : D} (T : CnIn X.K X.mg x d) (hg : Gl X x := by rfl) (hd : (x == ("__debug__" : Str)) = false := by decide) : EV X W (.Name x pos) (M.pure d) := by
  obtain ⟨u, v, hm, r, hf⟩ := T
  exact ev_glob hg hm r hf hd
theorem cn_int {mg : Str → Option Value} {x : Str} {i : Int} {t : Tok} (h : mg x = some (.int i t)) : CnIn K mg x (.int i) := ⟨_, .int i, h, ⟨t, rfl⟩, fun _ => .int i⟩
theorem cn_str {mg : Str → Option Value} {x s : Str} {t : Tok} (h : mg x = some (.str s t)) : CnIn K mg x (.str s) := ⟨_, .str s, h, ⟨t, rfl⟩, fun _ => .str s⟩
inductive Flats : List Value → List D → Prop
  | nil : Flats [] []
  | int {i : Int} {t : Tok} {us : List Value} {ds : List D} : Flats us ds → Flats (.int i t :: us) (.int i :: ds)
  | str {x : Str} {t : Tok} {us : List Value} {ds : List D} : Flats us ds → Flats (.str x t :: us) (.str x :: ds)
theorem Flats.go {K : PySem.W.Frag} : ∀ {us : List Value} {ds : List D}, Flats us ds → ∃ vs, Vals vs us ∧ ∀ B, Fzs K B vs ds
  | _, _, .nil => ⟨[], .nil, fun _ => .nil⟩
  | _, _, .int (i := i) (t := t) r => by
    obtain ⟨vs, h1, h2⟩ := Flats.go (K := K) r
    exact ⟨.int i :: vs, .cons ⟨t, rfl⟩ h1, fun B => .cons (.int i) (h2 B)⟩
  | _, _, .str (x := x) (t := t) r => by
    obtain ⟨vs, h1, h2⟩ := Flats.go (K := K) r
    exact ⟨.str x :: vs, .cons ⟨t, rfl⟩ h1, fun B => .cons (.str x) (h2 B)⟩
theorem cn_tup {mg : Str → Option Value} {x : Str} {p : Addr} {od : Option Addr} {us : List Value} {n : Nat} {sl : Array (Option Value)} {ds : List D} (h : mg x = some (.ref p)) (l : K.lookup p = some ⟨.type "tuple", od, .seq us.toArray n, sl⟩) (hz : us.length ≤ 1000) (fl : Flats us ds) : CnIn K mg x (.tup ds) := by
  obtain ⟨vs, h1, h2⟩ := Flats.go (K := K) fl
  exact ⟨_, .ref p, h, rfl, fun B => .tup (.inr ⟨_, us.toArray, n, l, rfl, rfl, by rw [List.size_toArray]; exact Nat.le_trans hz (by decide), by simpa using h1⟩) (h2 B)⟩
theorem ev_chain {op op' : CmpOp} {r r' : R2} {g g' : D → D → Option D} {f1 f2 f3 : M D} (ho : OpR X (compareOp op) r) (hr : OpD X.K r g) (ho' : OpR X (compareOp op') r') (hr' : OpD X.K r' g') (ha : EV X W a f1) (hb : EV X W b f2) (hc : EV X W c f3)
    (hm : lastMarks [op, op'] [b, c] = false := by with_unfolding_all rfl) : EV X W (.Compare a [op, op'] [b, c] pos) (mChain g g' f1 f2 f3) := by
  intro F ρ σ B H Q L P
  refine PE.we (pe_chain ho ho' pe_we pe_we pe_we hm) ?_
  refine ha F ρ σ B H _ L ((Post.bind P).imp fun dx ρ1 B1 H1 e1 L1 P1 x fx => ?_)
  refine hb F ρ1 σ B1 H1 _ L1 ((Post.bind P1).imp fun dy ρ2 B2 H2 e2 L2 P2 y fy => ?_)
  obtain ⟨z, hz, k⟩ := (Post.bind P2).opt
  refine hr x y dx dy z B2 H2 _ L2.ex (fx.mono e2) fy hz (L2.grow fun B' H' e' L' v fv => ?_)
  have P3 := k B' H' e' L'
  split at P3
  · cases fv
    refine ⟨true, rfl, ?_⟩
    rw [if_pos rfl]
    refine hc F ρ2 σ B' H' _ L' ((Post.bind P3).imp fun dw ρ3 B3 H3 e3 L3 P4 w fw => ?_)
    obtain ⟨d, hd, k2⟩ := P4.opt
    exact hr' y w dy dw d B3 H3 Q L3.ex ((fy.mono e').mono e3) fw hd (L3.grow k2)
  · cases fv
    refine ⟨false, rfl, ?_⟩
    rw [if_neg Bool.false_ne_true]
    exact P3 B' H' (Ex.refl _) L' _ (.bl false)
  · exact P3.elim
def cutD (xs : List D) (lo hi : Option Int) : List D := (xs.drop (HT.sIx xs.length 0 lo)).take (HT.sIx xs.length xs.length hi - HT.sIx xs.length 0 lo)
theorem Fzs.cut {B : Hp} {vs : List V} {ds : List D} (h : Fzs K B vs ds) (lo hi : Option Int) : Fzs K B (cutV vs lo hi) (cutD ds lo hi) := by
  unfold cutV cutD
  rw [h.len]
  exact (h.drop _).take _
def asOI : Option D → Option (Option Int)
  | none => some none
  | some (.int i) => some (some i)
  | some _ => none
def mPart (f : Option (M D)) : M (Option Int) := match f with
  | none => M.pure none
  | some f => M.bind f fun d => M.opt (match d with
    | .int i => some (some i)
    | _ => none)
def EP' (X : Cx) (W : WX) (e : Option Expr) (f : M (Option Int)) : Prop := ∃ t, PO X e t ∧ ∀ (F : Fr) (ρ : Env) (σ : St) (B H : Hp) (Q : Option Int → Hp → Prop), Lv X.K F ρ σ B H → Post X W F σ B (f ρ) (fun o _ _ H' => Q o H') → t σ H Q
theorem ep_none : EP' X W none (mPart none) := ⟨_, po_none, fun F ρ σ B H Q L P => P B H (Ex.refl _) L⟩
theorem ep_some {f : M D} (h : EV X W e f) : EP' X W (some e) (mPart (some f)) := ⟨_, po_some pe_we, fun F ρ σ B H Q L P => by
  refine h F ρ σ B H _ L ((Post.bind P).imp fun d ρ1 B1 H1 e1 L1 P1 v fv => ?_)
  obtain ⟨o, ho, k⟩ := P1.opt
  split at ho
  · cases fv
    injection ho with ho; subst ho
    exact ⟨_, rfl, k B1 H1 (Ex.refl _) L1⟩
  · cases ho⟩
def dSl (d : D) (lo hi : Option Int) : Option (D × Ob) := match d with
  | .lst xs => some (.lst (cutD xs lo hi), .tt)
  | .tup xs => some (.tup (cutD xs lo hi), .ff)
  | _ => none
def mSl (f : M D) (fl fh : M (Option Int)) : M (D × Ob) := M.bind f fun d => M.bind fl fun lo => M.bind fh fun hi => M.opt (dSl d lo hi)
theorem cut_all {xs : List D} {lo hi : Option Int} (h : HT.sIx xs.length 0 lo = 0 ∧ HT.sIx xs.length xs.length hi = xs.length) : cutD xs lo hi = xs := by
  unfold cutD
  rw [h.1, h.2, List.drop_zero, Nat.sub_zero, List.take_length]
theorem eo_slice {lo hi : Option Expr} {p2 : Pos} {f : M D} {fl fh : M (Option Int)} (he : EV X W e f) (hl : EP' X W lo fl) (hh : EP' X W hi fh) : EO X W (.Subscript e (.Slice lo hi none p2) pos) (mSl f fl fh) := by
  obtain ⟨tl, pl, hl⟩ := hl
  obtain ⟨th, ph, hh⟩ := hh
  intro F ρ σ B H Q L P
  refine PE.we (pe_slice (sl_list.or sl_tupA) pe_we pl ph) ?_
  refine he F ρ σ B H _ L ((Post.bind P).imp fun d ρ1 B1 H1 e1 L1 P1 v fv => ?_)
  refine hl F ρ1 σ B1 H1 _ L1 ((Post.bind P1).imp fun l ρ2 B2 H2 e2 L2 P2 => ?_)
  refine hh F ρ2 σ B2 H2 _ L2 ((Post.bind P2).imp fun u ρ3 B3 H3 e3 L3 P3 => ?_)
  obtain ⟨p, hp, k⟩ := P3.opt
  have fv3 := (fv.mono e2).mono e3
  cases fv3 with
  | @lst a xs ds h fs =>
    injection hp with hp; subst hp
    refine .inl ⟨a, xs, rfl, .inl (.inl (L3.ex _ _ h)), fun q hq => ?_⟩
    obtain ⟨L4, v4⟩ := L3.newL hq (fs.cut l u)
    exact k B3 _ (Ex.refl _) L4 _ v4
  | @tup a xs ds h fs =>
    injection hp with hp; subst hp
    refine .inr ⟨a, xs, rfl, L3.ex.st h, fun hw => ?_, fun _ q hq => ?_⟩
    · have e : cutD ds l u = ds := cut_all (by rw [← fs.len]; exact hw)
      rw [e] at k
      exact k B3 H3 (Ex.refl _) L3 _ (show Fz X.K B3 (.ref a) (.tup ds) from .tup h fs)
    · exact k _ _ (Ex.new (L3.ex.nn hq)) (L3.alloc hq) _ (show Fz X.K _ (.ref q) _ from .tup (.inl (.inl upd_same)) ((fs.cut l u).mono (Ex.new (L3.ex.nn hq))))
  | _ => cases hp
def mRevL (f : M D) : M (D × Ob) := M.bind f fun d => M.opt (match d with
  | .lst xs => some (.lst xs.reverse, .tt)
  | _ => none)
variable {tg : Expr}
def mZip (f : M (List D)) : M (List D) := M.bind f fun ds => M.opt (match ds with
  | [.lst xs, .lst ys] => some (List.zipWith (fun x y => D.tup [x, y]) xs ys)
  | _ => none)
theorem it_zip {p q : Addr} {xs ys : List V} {B : Hp} {ds es : List D} (h1 : B p = some (.lst xs)) (f1 : Fzs K B xs ds) (h2 : B q = some (.lst ys)) (f2 : Fzs K B ys es) : ItOk K (Itz K p q) B (List.zipWith (fun x y => D.tup [x, y]) ds es) where
  go := fun B' H' i e1 e2 hi => by
    rw [List.length_zipWith] at hi
    have hi1 : i < xs.length := by rw [f1.len]; omega
    have hi2 : i < ys.length := by rw [f2.len]; omega
    exact ⟨xs, ys, xs[i], ys[i], .inl (.inl (e2 _ _ (e1 _ _ h1))), .inl (.inl (e2 _ _ (e1 _ _ h2))), List.getElem?_eq_getElem hi1, List.getElem?_eq_getElem hi2⟩
  stop := fun B' H' i e1 e2 hi => by
    rw [List.length_zipWith] at hi
    refine ⟨xs, ys, .inl (.inl (e2 _ _ (e1 _ _ h1))), .inl (.inl (e2 _ _ (e1 _ _ h2))), ?_⟩
    rw [f1.len, f2.len]; omega
  yld := fun B' H' i x H3 d e1 e2 y hd => by
    obtain ⟨T, u, v, rfl, hT, rfl, hu, hv⟩ := y
    have h3 := hu xs (.inl (.inl (e2 _ _ (e1 _ _ h1))))
    have h4 := hv ys (.inl (.inl (e2 _ _ (e1 _ _ h2))))
    obtain ⟨d1, hd1, g1⟩ := f1.getV h3
    obtain ⟨d2, hd2, g2⟩ := f2.getV h4
    rw [List.getElem?_zipWith, hd1, hd2] at hd
    injection hd with hd; subst hd
    refine .inr (.inl ⟨T, _, hT, rfl, .tup (.inl (.inl upd_same)) ?_⟩)
    have en : Ex B' (upd B' T (.tup [u, v])) := Ex.new (e2.nn hT)
    exact .cons ((g1.mono e1).mono en) (.cons ((g2.mono e1).mono en) .nil)
theorem iv_zip {e e2 : Expr} {p tpos : Pos} {elts : List Expr} {kk : Nat} {f : M (List D)} (hm : X.mg "zip" = none) (ha : EA X W [e, e2] f) (hg : Gl X "zip" := by rfl)
    (hs : starEach [e, e2] X.env = (false, eval e X.env) :: starEach [e2] X.env := by rfl) (hpl : (backTo pos (starEach [e2] X.env)).any (·.1) = false := by rfl) : IV X W (.Tuple elts kk tpos) (.Call (.Name "zip" p) [e, e2] [] pos) (mZip f) := by
  intro F ρ σ B H R L P
  refine PI.wi (pi_zip hg hm pa_wa hs hpl) ?_
  refine ha F ρ σ B H _ L ((Post.bind P).imp fun ds ρ1 B1 H1 e1 L1 P1 vs fs => ?_)
  obtain ⟨zs, hd, k⟩ := P1.opt
  split at hd
  · injection hd with hd; subst hd
    cases fs with
    | cons f1 fs => cases fs with
      | cons f2 fs =>
        cases fs
        cases f1 with
        | lst h1 g1 => cases f2 with
          | lst h2 g2 => exact ⟨_, _, _, _, rfl, .inl (.inl (L1.ex _ _ h1)), .inl (.inl (L1.ex _ _ h2)), k B1 H1 (Ex.refl _) L1 _ (it_zip h1 g1 h2 g2)⟩
  · cases hd
def enumD (k : Nat) : List D → List D
  | [] => []
  | d :: r => .tup [.int (k : Nat), d] :: enumD (k + 1) r
theorem enumD_len : ∀ (k : Nat) (ds : List D), (enumD k ds).length = ds.length
  | _, [] => rfl
  | k, d :: r => by show (enumD (k + 1) r).length + 1 = _; rw [enumD_len]; rfl
theorem enumD_get : ∀ (k : Nat) (ds : List D) (i : Nat), (enumD k ds)[i]? = (ds[i]?).map fun d => D.tup [.int ((k + i : Nat) : Int), d]
  | _, [], i => by simp [enumD]
  | k, d :: r, 0 => by simp [enumD]
  | k, d :: r, i + 1 => by
    show (enumD (k + 1) r)[i]? = _
    rw [enumD_get (k + 1) r i]
    show _ = (r[i]?).map _
    rw [show k + 1 + i = k + (i + 1) by omega]
def mEnum (f : M (List D)) : M (List D) := M.bind f fun ds => M.opt (match ds with
  | [.lst xs] => some (enumD 0 xs)
  | _ => none)
theorem it_enum {p : Addr} {xs : List V} {B : Hp} {ds : List D} (h1 : B p = some (.lst xs)) (f1 : Fzs K B xs ds) : ItOk K (Ite K p) B (enumD 0 ds) where
  go := fun B' H' i e1 e2 hi => by
    rw [enumD_len] at hi
    have hi1 : i < xs.length := by rw [f1.len]; omega
    exact ⟨xs, xs[i], .inl (.inl (e2 _ _ (e1 _ _ h1))), List.getElem?_eq_getElem hi1⟩
  stop := fun B' H' i e1 e2 hi => by
    rw [enumD_len] at hi
    exact ⟨xs, .inl (.inl (e2 _ _ (e1 _ _ h1))), by rw [f1.len]; omega⟩
  yld := fun B' H' i x H3 d e1 e2 y hd => by
    obtain ⟨T, u, rfl, hT, rfl, hu⟩ := y
    have h3 := hu xs (.inl (.inl (e2 _ _ (e1 _ _ h1))))
    obtain ⟨d1, hd1, g1⟩ := f1.getV h3
    rw [enumD_get, hd1] at hd
    injection hd with hd; subst hd
    refine .inr (.inl ⟨T, _, hT, rfl, .tup (.inl (.inl upd_same)) ?_⟩)
    have en : Ex B' (upd B' T (.tup [.int (i : Nat), u])) := Ex.new (e2.nn hT)
    rw [Nat.zero_add]
    exact .cons (.int _) (.cons ((g1.mono e1).mono en) .nil)
theorem iv_enum {e : Expr} {p tpos : Pos} {elts : List Expr} {kk : Nat} {f : M (List D)} (hm : X.mg "enumerate" = none) (ha : EA X W [e] f) (hg : Gl X "enumerate" := by rfl)
    (hs : starEach [e] X.env = [(false, eval e X.env)] := by rfl) : IV X W (.Tuple elts kk tpos) (.Call (.Name "enumerate" p) [e] [] pos) (mEnum f) := by
  intro F ρ σ B H R L P
  refine PI.wi (pi_enum hg hm pa_wa hs) ?_
  refine ha F ρ σ B H _ L ((Post.bind P).imp fun ds ρ1 B1 H1 e1 L1 P1 vs fs => ?_)
  obtain ⟨zs, hd, k⟩ := P1.opt
  split at hd
  · injection hd with hd; subst hd
    cases fs with
    | cons f1 fs =>
      cases fs
      cases f1 with
      | lst h1 g1 => exact ⟨_, _, rfl, .inl (.inl (L1.ex _ _ h1)), k B1 H1 (Ex.refl _) L1 _ (it_enum h1 g1)⟩
  · cases hd
def mListOf (f : M (List D)) : M (D × Ob) := M.bind f fun ds => M.opt (match ds with
  | [.lst xs] => some (.lst xs, .tt)
  | [.tup xs] => some (.lst xs, .tt)
  | _ => none)
theorem eo_listOf {p : Pos} {f : M (List D)} (hm : X.mg "list" = none) (ha : EA X W [a] f) (hg : Gl X "list" := by rfl) (he : starEach (a :: []) X.env = (false, eval a X.env) :: starEach [] X.env := by rfl) : EO X W (.Call (.Name "list" p) [a] [] pos) (mListOf f) := by
  intro F ρ σ B H Q L P
  refine PE.we (pe_callTy call_list_of hg hm (by decide +kernel) pa_wa (by decide) (by decide) he rfl) ?_
  refine ha F ρ σ B H _ L ((Post.bind P).imp fun ds ρ1 B1 H1 e1 L1 P1 vs fs => ?_)
  obtain ⟨p, hp, k⟩ := P1.opt
  split at hp
  · injection hp with hp; subst hp
    cases fs with
    | cons f1 fs =>
      cases fs
      cases f1 with
      | lst h1 g1 =>
        refine ⟨_, _, rfl, .inl (.inl (.inl (L1.ex _ _ h1))), fun q hq => ?_⟩
        obtain ⟨L4, v4⟩ := L1.newL hq g1
        exact k B1 _ (Ex.refl _) L4 _ v4
  · injection hp with hp; subst hp
    cases fs with
    | cons f1 fs =>
      cases fs
      cases f1 with
      | tup h1 g1 =>
        refine ⟨_, _, rfl, .inr (L1.ex.st h1), fun q hq => ?_⟩
        obtain ⟨L4, v4⟩ := L1.newL hq g1
        exact k B1 _ (Ex.refl _) L4 _ v4
  · cases hp
def asInts : List D → Option (List Int)
  | [] => some []
  | .int i :: r => (asInts r).map (i :: ·)
  | _ => none
theorem asInts_eq : ∀ {ds : List D} {ns : List Int}, asInts ds = some ns → ds = ns.map D.int
  | [], ns, h => by injection h with h; subst h; rfl
  | .int i :: r, ns, h => by
    have h' : (asInts r).map (i :: ·) = some ns := h
    cases q : asInts r with
    | none => rw [q] at h'; cases h'
    | some ms => rw [q] at h'; injection h' with h'; subst h'; rw [List.map_cons, asInts_eq q]
  | .non :: _, _, h => by cases h
  | .bl _ :: _, _, h => by cases h
  | .str _ :: _, _, h => by cases h
  | .lst _ :: _, _, h => by cases h
  | .tup _ :: _, _, h => by cases h
  | .scr _ :: _, _, h => by cases h
  | .dic _ _ :: _, _, h => by cases h
theorem asInts_map : ∀ ns : List Int, asInts (ns.map D.int) = some ns
  | [] => rfl
  | n :: ns => by show (asInts (ns.map D.int)).map (n :: ·) = _; rw [asInts_map ns]; rfl
def dSum : List D → Option D
  | [.lst xs] => (asInts xs).map fun ns => .int ns.sum
  | _ => none
def maxI : List Int → Option Int
  | [] => none
  | n :: ns => some (ns.foldl max n)
def minI : List Int → Option Int
  | [] => none
  | n :: ns => some (ns.foldl min n)
def dMaxL : List D → Option D
  | [.lst xs] => ((asInts xs).bind maxI).map D.int
  | _ => none
def dMinL : List D → Option D
  | [.lst xs] => ((asInts xs).bind minI).map D.int
  | _ => none
theorem foldl_max (n : Int) (ns : List Int) : (ns.foldl max n = n ∨ ns.foldl max n ∈ ns) ∧ n ≤ ns.foldl max n ∧ ∀ m ∈ ns, m ≤ ns.foldl max n := by
  induction ns generalizing n with
  | nil => exact ⟨.inl rfl, Int.le_refl _, fun m h => by cases h⟩
  | cons k ns ih =>
    obtain ⟨h1, h2, h3⟩ := ih (max n k)
    rw [List.foldl_cons]
    refine ⟨?_, by omega, fun m hm => ?_⟩
    · rcases h1 with h1 | h1
      · rw [h1]
        by_cases q : n ≤ k
        · right; rw [show max n k = k by omega]; exact List.mem_cons_self
        · left; omega
      · right; exact List.mem_cons_of_mem _ h1
    · rcases List.mem_cons.mp hm with rfl | hm
      · omega
      · exact h3 m hm
theorem foldl_min (n : Int) (ns : List Int) : (ns.foldl min n = n ∨ ns.foldl min n ∈ ns) ∧ ns.foldl min n ≤ n ∧ ∀ m ∈ ns, ns.foldl min n ≤ m := by
  induction ns generalizing n with
  | nil => exact ⟨.inl rfl, Int.le_refl _, fun m h => by cases h⟩
  | cons k ns ih =>
    obtain ⟨h1, h2, h3⟩ := ih (min n k)
    rw [List.foldl_cons]
    refine ⟨?_, by omega, fun m hm => ?_⟩
    · rcases h1 with h1 | h1
      · rw [h1]
        by_cases q : k ≤ n
        · right; rw [show min n k = k by omega]; exact List.mem_cons_self
        · left; omega
      · right; exact List.mem_cons_of_mem _ h1
    · rcases List.mem_cons.mp hm with rfl | hm
      · omega
      · exact h3 m hm
theorem fz_ints {B : Hp} {v : V} {xs : List D} {ns : List Int} (f : Fz K B v (.lst xs)) (h : asInts xs = some ns) : ∃ p, v = .ref p ∧ B p = some (.lst (ns.map V.int)) := by
  cases f with
  | lst h1 g1 =>
    rw [asInts_eq h] at g1
    rw [g1.ints] at h1
    exact ⟨_, rfl, h1⟩
theorem cd_sum : CallD K (rSum K) dSum := by
  intro xs ds d B H Q ex fs h g
  unfold dSum at h
  split at h
  · cases q : asInts _ with
    | none => rw [q] at h; cases h
    | some ns =>
      rw [q] at h; injection h with h; subst h
      cases fs with
      | cons f1 fs =>
        cases fs
        obtain ⟨p, rfl, hp⟩ := fz_ints f1 q
        exact ⟨p, ns, rfl, .inl (.inl (ex _ _ hp)), g.1 _ (.int _)⟩
  · cases h
theorem cd_maxL : CallD K (rMax K) dMaxL := by
  intro xs ds d B H Q ex fs h g
  unfold dMaxL at h
  split at h
  · cases q : asInts _ with
    | none => rw [q] at h; cases h
    | some ns =>
      rw [q] at h
      cases ns with
      | nil => cases h
      | cons n ns =>
        injection h with h; subst h
        cases fs with
        | cons f1 fs =>
          cases fs
          obtain ⟨p, rfl, hp⟩ := fz_ints f1 q
          refine ⟨p, n :: ns, rfl, .inl (.inl (ex _ _ hp)), by rw [List.length_cons]; omega, fun m hm hle => ?_⟩
          obtain ⟨h1, h2, h3⟩ := foldl_max n ns
          have e : m = ns.foldl max n := by
            have a1 : ns.foldl max n ≤ m := by
              rcases h1 with h1 | h1
              · rw [h1]; exact hle n List.mem_cons_self
              · exact hle _ (List.mem_cons_of_mem _ h1)
            have a2 : m ≤ ns.foldl max n := by
              rcases List.mem_cons.mp hm with z | z
              · omega
              · exact h3 m z
            omega
          rw [e]
          exact g.1 _ (.int _)
  · cases h
theorem cd_minL : CallD K (rMin K) dMinL := by
  intro xs ds d B H Q ex fs h g
  unfold dMinL at h
  split at h
  · cases q : asInts _ with
    | none => rw [q] at h; cases h
    | some ns =>
      rw [q] at h
      cases ns with
      | nil => cases h
      | cons n ns =>
        injection h with h; subst h
        cases fs with
        | cons f1 fs =>
          cases fs
          obtain ⟨p, rfl, hp⟩ := fz_ints f1 q
          refine ⟨p, n :: ns, rfl, .inl (.inl (ex _ _ hp)), by rw [List.length_cons]; omega, fun m hm hle => ?_⟩
          obtain ⟨h1, h2, h3⟩ := foldl_min n ns
          have e : m = ns.foldl min n := by
            have a1 : m ≤ ns.foldl min n := by
              rcases h1 with h1 | h1
              · rw [h1]; exact hle n List.mem_cons_self
              · exact hle _ (List.mem_cons_of_mem _ h1)
            have a2 : ns.foldl min n ≤ m := by
              rcases List.mem_cons.mp hm with z | z
              · omega
              · exact h3 m z
            omega
          rw [e]
          exact g.1 _ (.int _)
  · cases h
variable {p : Pos} {fa : M (List D)}
theorem ev_sum (hc : X.calm = true) (hm : X.mg "sum" = none) (ha : EA X W [a] fa) (hg : Gl X "sum" := by rfl) (he : starEach (a :: []) X.env = (false, eval a X.env) :: starEach [] X.env := by rfl) : EV X W (.Call (.Name "sum" p) [a] [] pos) (mCall dSum fa) := ev_callB (cr_sum hc) cd_sum hg hm (by decide +kernel) ha (by decide) (by decide) he
theorem ev_maxL (hc : X.calm = true) (hm : X.mg "max" = none) (ha : EA X W [a] fa) (hg : Gl X "max" := by rfl) (he : starEach (a :: []) X.env = (false, eval a X.env) :: starEach [] X.env := by rfl) : EV X W (.Call (.Name "max" p) [a] [] pos) (mCall dMaxL fa) := ev_callB (cr_max hc) cd_maxL hg hm (by decide +kernel) ha (by decide) (by decide) he
theorem ev_minL (hc : X.calm = true) (hm : X.mg "min" = none) (ha : EA X W [a] fa) (hg : Gl X "min" := by rfl) (he : starEach (a :: []) X.env = (false, eval a X.env) :: starEach [] X.env := by rfl) : EV X W (.Call (.Name "min" p) [a] [] pos) (mCall dMinL fa) := ev_callB (cr_min hc) cd_minL hg hm (by decide +kernel) ha (by decide) (by decide) he
def dInt : List D → Option D
  | [.int i] => some (.int i)
  | [.bl k] => some (.int (if k then 1 else 0))
  | _ => none
theorem cd_int : CallD K (fun xs H Q => (∃ i, xs = [.int i] ∧ Q (.int i) H) ∨ ∃ k, xs = [.bl k] ∧ Q (.int (if k then 1 else 0)) H) dInt := by
  intro xs ds d B H Q ex fs h g
  unfold dInt at h
  split at h
  · injection h with h; subst h
    cases fs with
    | cons f1 fs => cases fs; cases f1; exact .inl ⟨_, rfl, g.1 _ (.int _)⟩
  · injection h with h; subst h
    cases fs with
    | cons f1 fs => cases fs; cases f1; exact .inr ⟨_, rfl, g.1 _ (.int _)⟩
  · cases h
theorem ev_intOf (hm : X.mg "int" = none) (ha : EA X W [a] fa) (hg : Gl X "int" := by rfl) (he : starEach (a :: []) X.env = (false, eval a X.env) :: starEach [] X.env := by rfl) : EV X W (.Call (.Name "int" p) [a] [] pos) (mCall dInt fa) := ev_callTy call_int1 cd_int hg hm (by decide +kernel) ha (by decide) (by decide) he
def chkL (i : Nat) : M Unit := fun ρ => match ρ[i]? with
  | some (.ow (.lst _)) => .ok () ρ
  | some (.io (.lst _)) => .ok () ρ
  | _ => .fail
theorem Lv.chkL {F : Fr} {ρ : Env} {σ : St} {B H : Hp} {i : Nat} (L : Lv K F ρ σ B H) (h : Dt.chkL i ρ ≠ .fail) : Dt.chkL i ρ = .ok () ρ ∧ ∃ a vs, σ[i]? = some (some (.ref a)) ∧ H a = some (.lst vs) := by
  unfold Dt.chkL at h ⊢
  split at h
  · rename_i d q
    obtain ⟨a, e1, w, _⟩ := L.ow i _ q rfl
    obtain ⟨_, vs, h1, _⟩ := w
    exact ⟨by simp only [q], _, _, e1, h1⟩
  · rename_i d q
    obtain ⟨a, e1, w, _⟩ := L.ow i _ q rfl
    obtain ⟨_, vs, h1, _⟩ := w
    exact ⟨by simp only [q], _, _, e1, h1⟩
  · exact absurd rfl h
def mUpd (i : Nat) (h : List D → Option (List D)) : M Fl := fun ρ => match ρ[i]? with
  | some (.ow (.lst ds)) => match h ds with
    | some ds' => .ok .nx (ρ.set i (.ow (.lst ds')))
    | none => .fail
  | some (.io (.lst ds)) => match h ds with
    | some ds' => .ok .nx (ρ.set i (.io (.lst ds')))
    | none => .fail
  | _ => .fail
theorem Lv.upd1 {F : Fr} {ρ : Env} {σ : St} {B H : Hp} {i : Nat} {h : List D → Option (List D)} {N : Ends} {aa : Addr} (L : Lv X.K F ρ σ B H) (ev : σ[i]? = some (some (.ref aa))) (P : PostS X W F B (mUpd i h ρ) N) :
    ∃ vs ds ds', H aa = some (.lst vs) ∧ Fzs X.K B vs ds ∧ h ds = some ds' ∧ ∀ vs', Fzs X.K B vs' ds' → N.nx σ (upd H aa (.lst vs')) := by
  have go : ∀ {s : Slot} {ds : List D}, ρ[i]? = some s → flat s = true → s.dat = .lst ds → (∀ ds', h ds = some ds' → PostS X W F B (.ok .nx (ρ.set i (reslot ρ[i]? (.lst ds')))) N) → (h ds = none → False) → ∃ vs ds ds', H aa = some (.lst vs) ∧ Fzs X.K B vs ds ∧ h ds = some ds' ∧ ∀ vs', Fzs X.K B vs' ds' → N.nx σ (upd H aa (.lst vs')) := by
    intro s ds q ho hd P2 nf
    obtain ⟨a', vs, h1, h2, fs, st⟩ := L.setAt (ds' := ds) q ho hd
    rw [ev] at h1; injection h1 with h1; injection h1 with h1; injection h1 with h1; subst h1
    cases q2 : h ds with
    | none => exact (nf q2).elim
    | some ds' => exact ⟨vs, ds, ds', h2, fs, q2, fun vs' f' => P2 ds' q2 σ B _ (Ex.refl _) (st vs' ds' f')⟩
  unfold mUpd at P
  split at P
  · rename_i ds q
    refine go q rfl rfl (fun ds' z => ?_) (fun z => ?_)
    · rw [q]; simp only [z] at P; exact P
    · simp only [z] at P; exact P
  · rename_i ds q
    refine go q rfl rfl (fun ds' z => ?_) (fun z => ?_)
    · rw [q]; simp only [z] at P; exact P
    · simp only [z] at P; exact P
  · exact P.elim
def mApp1 (i : Nat) (fe : M D) : M Fl := M.bind (chkL i) fun _ => M.bind fe fun d => mUpd i fun ds => if ds.length < 10000 then some (ds ++ [d]) else none
theorem sv_app {i : Nat} {x : Str} {px apos cpos : Pos} {fe : M D} (he : EV X W e fe) (hN : X.N[i]? = some x := by rfl) (hv : Vis X.env.scope x := by first | exact Or.inl rfl | exact Or.inr (Or.inl rfl) | exact Or.inr (Or.inr rfl)) (hd : (x == ("__debug__" : Str)) = false := by decide)
    (hcd : (x == ("__classdict__" : Str)) = false := by decide) (hbase : attributeBase (.Name x px) "append" X.env (eval (.Name x px) X.env) = eval (.Name x px) X.env := by rfl)
    (hfew : ((backTo cpos (starEach (e :: []) X.env)).all (fun x => !x.1) && (backToKw cpos (keywordEach [] X.env)).all (fun x => x.1.isSome)
      && decide ((e :: []).length + ([] : List Keyword).length + (if ([] : List Keyword).isEmpty then 0 else 1) < 30)) = true := by rfl)
    (hline : (apos.endLine == cpos.line) = true := by rfl) (hs : starEach (e :: []) X.env = (false, eval e X.env) :: starEach [] X.env := by rfl)
    (hsw : swapsWith (.Call (.Attribute (.Name x px) "append" apos) [e] [] cpos) none pos.line X.env = pure false := by rfl) : SV X W (.Expr (.Call (.Attribute (.Name x px) "append" apos) [e] [] cpos) pos) (mApp1 i fe) := by
  intro F ρ σ B H N L P
  refine PS.ws (ps_expr (pe_bm PySem.F.plainAttrs_list PySem.F.slot_list_append PySem.F.type_list_append mt_append (pe_var hN hv hd hcd) (pa_cons pe_we pa_nil hs) hbase hfew hline hs rfl) hsw) ?_
  have P0 : PostS X W F B ((M.bind (chkL i) fun _ => M.bind fe fun d => mUpd i fun ds => if ds.length < 10000 then some (ds ++ [d]) else none) ρ) N := P
  have hne : chkL i ρ ≠ .fail := fun z => by unfold M.bind at P0; simp only [z] at P0; exact P0.elim
  obtain ⟨hck, aa, vs, ev, hl⟩ := L.chkL hne
  unfold M.bind at P0
  simp only [hck] at P0
  refine ⟨_, ev, .inl ⟨rfl, vs, .inl (.inl hl)⟩, ?_⟩
  refine he F ρ σ B H _ L ((PostS.bind (σ := σ) P0).imp fun d ρ1 B1 H1 e1 L1 P1 v fv => ?_)
  obtain ⟨vs1, ds1, ds2, h1, fs, h2, k⟩ := L1.upd1 ev P1
  split at h2
  · rename_i hz
    injection h2 with h2; subst h2
    exact ⟨aa, vs1, v, rfl, rfl, h1, lt_line (by rw [fs.len]; exact hz), k _ (fs.append (.cons fv .nil))⟩
  · cases h2
def mAugI (i : Nat) (h : Int → Int → Int) (f : M D) : M Fl := M.bind (chk i) fun _ => M.bind f fun d ρ => match ρ[i]?, d with
  | some (.fz (.int z)), .int y => .ok .nx (ρ.set i (.fz (.int (h z y))))
  | _, _ => .fail
end
end Dt
namespace Dt
open PySem PySem.Spec PyProof.Rows L2
section
variable {X : Cx} {W : WX} {e a b : Expr} {fa : M (List D)} {p pos : Pos} {K : PySem.W.Frag}
theorem sv_raiseV {x : Str} {fe : M D} {p3 : Pos} (hc : X.calm = true) (tk : Takes X W) (T : ExC X.K X.mg x) (he : EV X W e fe) (hg : Gl X x := by rfl) (hs : starEach [e] X.env = (false, eval e X.env) :: starEach [] X.env := by rfl) (hdb : (x == ("__debug__" : Str)) = false := by decide) :
    SV X W (.Raise (some (.Call (.Name x p) [e] [] p3)) none pos) (M.bind fe fun _ => M.raise x) := by
  obtain ⟨C, gC, xC, kC, bC, tC⟩ := T
  intro F ρ σ B H N L P
  refine PS.ws (ps_raise hc tk (SkE.pmk_own1 PySem.F.excBase_ValueError xC gC kC (raises_own bC tC) hg pe_we hs hdb)) ?_
  refine he F ρ σ B H _ L ((PostS.bind (σ := σ) P).imp fun d ρ1 B1 H1 e1 L1 P1 v fv => ?_)
  have h := P1 σ B1 H1 (Ex.refl _) L1
  unfold cv at h
  rw [gC] at h
  exact h
def shows (d : D) : Bool := d.py.showable && decide (d.py.shown.length ≤ sizeLine) && decide (d.py.depth ≤ 60) && !d.py.hasDict
theorem shows_nd {d : D} (h : shows d = true) : d.nd = true := by
  unfold shows at h
  simp only [Bool.and_eq_true, Bool.not_eq_true'] at h
  exact D.nd_has h.2
def dRepr : List D → Option D
  | [.lst xs] => if shows (.lst xs) = true then some (.str (D.lst xs).py.shown) else none
  | [.tup xs] => if shows (.tup xs) = true then some (.str (D.tup xs).py.shown) else none
  | _ => none
theorem call_reprD (gd : Quiet X.prog X.base X.A) (hu : X.A.units + 64 < cLine) : CallR X (.builtin "repr") (fun xs H Q => ∃ (q : Addr) (d : D), xs = [.ref q] ∧ Dp X.K H (.ref q) d.py ∧ shows d = true ∧ Q (.str d.py.shown) H) := by
  intro pins s σ H xs us Q I r h
  obtain ⟨q, d, rfl, hd, sh, k⟩ := h
  obtain ⟨u, rfl, ru⟩ := vals1 r
  obtain rfl : u = .ref q := ru
  obtain ⟨as, rd⟩ := Dp.reads I d.py (.ref q) (.ref q) hd rfl
  unfold shows at sh
  simp only [Bool.and_eq_true, decide_eq_true_eq, Bool.not_eq_true'] at sh
  obtain ⟨⟨⟨s1, s2⟩, s3⟩, s4⟩ := sh
  exact repr_of_reads' rd s1 (fun z => by rw [s4] at z; cases z) gd.g (by omega) (fun _ _ z => z) (fun h' t tk hk => ⟨.str d.py.shown, H, I.kept hk, ⟨t, rfl⟩, k⟩) s2
theorem cd_repr : CallD K (fun xs H Q => ∃ (q : Addr) (d : D), xs = [.ref q] ∧ Dp K H (.ref q) d.py ∧ shows d = true ∧ Q (.str d.py.shown) H) dRepr := by
  intro xs ds d B H Q ex fs h g
  unfold dRepr at h
  split at h
  · split at h
    · rename_i hs
      injection h with h; subst h
      cases fs with
      | cons f1 fs =>
        cases fs
        cases f1 with
        | lst h1 h2 => exact ⟨_, _, rfl, Fz.dp ex (shows_nd hs) (.lst h1 h2), hs, g.1 _ (.str _)⟩
    · cases h
  · split at h
    · rename_i hs
      injection h with h; subst h
      cases fs with
      | cons f1 fs =>
        cases fs
        cases f1 with
        | tup h1 h2 => exact ⟨_, _, rfl, Fz.dp ex (shows_nd hs) (.tup h1 h2), hs, g.1 _ (.str _)⟩
    · cases h
  · cases h
theorem ev_repr (gd : Quiet X.prog X.base X.A) (hu : X.A.units + 64 < cLine) (hm : X.mg "repr" = none) (ha : EA X W [a] fa) (hg : Gl X "repr" := by rfl) (he : starEach (a :: []) X.env = (false, eval a X.env) :: starEach [] X.env := by rfl) : EV X W (.Call (.Name "repr" p) [a] [] pos) (mCall dRepr fa) :=
  ev_callB (call_reprD gd hu) cd_repr hg hm (by decide +kernel) ha (by decide) (by decide) he
end
end Dt
namespace Dt
open PySem PySem.Spec PyProof.Rows L2
section
variable {X : Cx} {W : WX} {e a b kx : Expr} {f1 f2 fe fk : M D} {p p2 pos : Pos} {K : PySem.W.Frag} {F : Fr} {ρ : Env} {σ : St} {B H : Hp} {i : Nat} {x : Str}
def mListRg1 (f1 : M D) : M (D × Ob) := M.bind f1 fun d => M.opt (match d with
  | .int j => if -10000 < j ∧ j < 10000 then some (.lst (rangeD 0 j), .tt) else none
  | _ => none)
def mListRg2 (f1 f2 : M D) : M (D × Ob) := M.bind f1 fun c => M.bind f2 fun d => M.opt (match c, d with
  | .int i, .int j => if (-10000 < i ∧ i < 10000) ∧ (-10000 < j ∧ j < 10000) then some (.lst (rangeD i j), .tt) else none
  | _, _ => none)
theorem fzs_rg {B : Hp} (i j : Int) : Fzs K B (rgV i j) (rangeD i j) := by
  unfold rgV rangeD
  generalize List.range (j - i).toNat = l
  induction l with
  | nil => exact .nil
  | cons x r ih => exact .cons (.int _) ih
theorem eo_listRg1 {p3 : Pos} (hc : X.calm = true) (hm : X.mg "list" = none) (hr : X.mg "range" = none) (ha : EV X W a f1) (hg : Gl X "list" := by rfl) (hg2 : Gl X "range" := by rfl) (h1 : starEach [Expr.Call (.Name "range" p2) [a] [] pos] X.env = (false, eval (.Call (.Name "range" p2) [a] [] pos) X.env) :: starEach [] X.env := by rfl) (h2 : starEach [a] X.env = (false, eval a X.env) :: starEach [] X.env := by rfl) :
    EO X W (.Call (.Name "list" p) [.Call (.Name "range" p2) [a] [] pos] [] p3) (mListRg1 f1) := by
  intro F ρ σ B H Q L P
  refine PE.we (pe_listRg hc hg hm (prg_1 hg2 hr pe_we h2) h1) ?_
  refine ha F ρ σ B H _ L ((Post.bind P).imp fun d ρ1 B1 H1 e1 L1 P1 v fv => ?_)
  obtain ⟨z, hz, k⟩ := P1.opt
  split at hz
  · rename_i j
    cases fv
    split at hz
    · rename_i hj
      injection hz with hz; subst hz
      refine ⟨j, rfl, ⟨by omega, by omega, by omega, by omega, by omega⟩, fun q hq => ?_⟩
      obtain ⟨L4, v4⟩ := L1.newL hq (fzs_rg 0 j)
      exact k B1 _ (Ex.refl _) L4 _ v4
    · cases hz
  · cases hz
def mUpdE (i : Nat) (h : List D → Option (D × List D)) : M D := fun ρ => match ρ[i]? with
  | some (.ow (.lst ds)) => match h ds with
    | some (d, ds') => .ok d (ρ.set i (.ow (.lst ds')))
    | none => .fail
  | some (.io (.lst ds)) => match h ds with
    | some (d, ds') => .ok d (ρ.set i (.io (.lst ds')))
    | none => .fail
  | _ => .fail
def popD (k : D) (ds : List D) : Option (D × List D) := match k with
  | .int z => if ds.length ≤ 10000 then (ixN ds.length z).bind fun j => (ds[j]?).map fun d => (d, ds.eraseIdx j) else none
  | _ => none
def mPopAt (i : Nat) (fk : M D) : M D := M.bind (chkL i) fun _ => M.bind fk fun k => mUpdE i (popD k)
def mExt (i : Nat) (fe : M D) : M Fl := M.bind (chkL i) fun _ => M.bind fe fun d => mUpd i fun ds => match d with
  | .lst es => if ds.length + es.length ≤ 100000 then some (ds ++ es) else none
  | _ => none
def mIns (i : Nat) (fk fe : M D) : M Fl := M.bind (chkL i) fun _ => M.bind fk fun c => M.bind fe fun d => mUpd i fun ds => match c with
  | .int z => if ds.length < 10000 ∧ 0 ≤ z ∧ z < 10000 then some (ds.take z.toNat ++ [d] ++ ds.drop z.toNat) else none
  | _ => none
def getV (k d : D) : Option D := match k with
  | .int z => if 0 ≤ z then dIxL d (.int z) else none
  | _ => none
def mGetV (i : Nat) (k : D) : M D := fun ρ => match (contR ρ[i]?).bind (getV k) with
  | some z => .ok z ρ
  | none => .fail
def augD (h : Int → Int → Int) (c old d : D) (ds : List D) : Option (List D) := match c, old, d with
  | .int z, .int x, .int y => if 0 ≤ z then (ixN ds.length z).map fun j => ds.set j (.int (h x y)) else none
  | _, _, _ => none
def mAugAt (i : Nat) (h : Int → Int → Int) (fk fe : M D) : M Fl := M.bind (chkL i) fun _ => M.bind fk fun c => M.bind (mGetV i c) fun old => M.bind fe fun d => mUpd i (augD h c old d)
def mCatO (f1 f2 : M D) : M (D × Ob) := M.bind f1 fun c => M.bind f2 fun d => M.opt (match c, d with
  | .lst xs, .lst ys => if tooLong (xs.length + ys.length) = true then none else some (.lst (xs ++ ys), .tt)
  | _, _ => none)
def mRepO (f1 f2 : M D) : M (D × Ob) := M.bind f1 fun c => M.bind f2 fun d => M.opt (match c, d with
  | .lst xs, .int k => if k < 10000 ∧ -10000 < k ∧ xs.length ≤ 1000 then some (.lst (List.replicate k.toNat xs).flatten, .tt) else none
  | _, _ => none)
theorem eo_rep (ha : EV X W a f1) (hb : EV X W b f2) : EO X W (.BinOp a .Mult b pos) (mRepO f1 f2) := by
  intro F ρ σ B H Q L P
  refine PE.we (pe_op op_rep pe_we pe_we) ?_
  refine ha F ρ σ B H _ L ((Post.bind P).imp fun c ρ1 B1 H1 e1 L1 P1 u fu => ?_)
  refine hb F ρ1 σ B1 H1 _ L1 ((Post.bind P1).imp fun d ρ2 B2 H2 e2 L2 P2 v fv => ?_)
  obtain ⟨z, hz, k⟩ := P2.opt
  replace fu := fu.mono e2
  split at hz
  · rename_i xs kk
    split at hz
    · rename_i hk
      injection hz with hz; subst hz
      cases fv
      cases fu with
      | lst g1 g2 =>
        refine ⟨_, kk, _, rfl, rfl, L2.ex _ _ g1, by omega, by omega, ?_, fun q hq => ?_⟩
        · have h1 := hk.2.2
          rw [← g2.len] at h1
          have h2 : kk.toNat ≤ 10000 := by omega
          exact len_line' (Nat.le_trans (Nat.mul_le_mul h1 h2) (by decide))
        · obtain ⟨L4, v4⟩ := L2.newL hq (g2.rep kk.toNat)
          exact k B2 _ (Ex.refl _) L4 _ v4
    · cases hz
  · cases hz
def mIsiL (T : String) (i : Nat) : M D := M.bind (chk i) fun _ ρ => match (contR ρ[i]?).bind (dIsi T) with
  | some z => .ok z ρ
  | none => .fail
end
end Dt
namespace Dt
open PySem L2
def Rs.bnd {α β : Type} (r : Rs α) (g : α → M β) : Rs β := match r with
  | .ok a ρ' => g a ρ'
  | .rz c ρ' => .rz c ρ'
  | .fail => .fail
section
variable {α β : Type} {ρ ρ' : Env} {a : α} {c : Str} {g : α → M β} {f : M α}
@[simp] theorem ok_bnd : (Rs.ok a ρ).bnd g = g a ρ := rfl
@[simp] theorem rz_bnd : (Rs.rz c ρ : Rs α).bnd g = .rz c ρ := rfl
@[simp] theorem fail_bnd : (Rs.fail : Rs α).bnd g = .fail := rfl
@[simp] theorem bind_ap : M.bind f g ρ = (f ρ).bnd g := rfl
@[simp] theorem pure_ap : M.pure a ρ = .ok a ρ := rfl
@[simp] theorem fail_ap : (M.fail : M α) ρ = .fail := rfl
@[simp] theorem opt_some : M.opt (some a) ρ = .ok a ρ := rfl
@[simp] theorem opt_none : (M.opt none : M α) ρ = .fail := rfl
@[simp] theorem raise_ap : (M.raise c : M α) ρ = .rz c ρ := rfl
end
section
variable {i j : Nat} {ρ : Env} {d x y : D} {f f1 f2 f3 : M D} {fs : M (List D)} {fo : M (D × Ob)} {t u : M Bool} {a b : M Fl} {g : D → D → Option D} {g1 : D → Option D} {gs : List D → Option D} {k : Bool}
@[simp] theorem var_ap : mVar i ρ = match ρ[i]? with
  | some (.fz d) => .ok d ρ
  | some (.ow d) => .ok d (ρ.set i (.fz d))
  | some (.dp _ d) => .ok d (ρ.set i (.fz d))
  | _ => .fail := rfl
@[simp] theorem bin_ap : mBin g f1 f2 ρ = (f1 ρ).bnd fun x => M.bind f2 fun y => M.opt (g x y) := rfl
@[simp] theorem un_ap : mUn g1 f ρ = (f ρ).bnd fun x => M.opt (g1 x) := rfl
@[simp] theorem test_ap : mTest f ρ = (f ρ).bnd fun d => M.opt (asBl d) := rfl
@[simp] theorem asBl_bl : asBl (.bl k) = some k := rfl
@[simp] theorem nil_ap : mNil ρ = .ok [] ρ := rfl
@[simp] theorem cons_ap : mCons f fs ρ = (f ρ).bnd fun x => M.bind fs fun xs => M.pure (x :: xs) := rfl
@[simp] theorem call_ap : mCall gs fs ρ = (fs ρ).bnd fun xs => M.opt (gs xs) := rfl
@[simp] theorem tup_ap : mTup fs ρ = (fs ρ).bnd fun xs => M.opt (if xs.length ≤ 10000 then some (.tup xs) else none) := rfl
@[simp] theorem lst_ap : mLst fs ρ = (fs ρ).bnd fun xs => M.opt (if xs.length ≤ 10000 then some (.lst xs, .tt) else none) := rfl
@[simp] theorem mfz_ap : mFz fo ρ = (fo ρ).bnd fun p => M.opt (if p.2.ok = true then some p.1 else none) := rfl
@[simp] theorem mof_ap : mOf f ρ = (f ρ).bnd fun d => M.pure (d, .ff) := rfl
@[simp] theorem move_ap : mMove i ρ = match ρ[i]? with
  | some (.fz d) => .ok (d, .ff) ρ
  | some (.ow d) => .ok (d, .tt) (ρ.set i .un)
  | some (.dp m d) => .ok (d, .dp m) (ρ.set i .un)
  | _ => .fail := rfl
@[simp] theorem and_ap : mAnd t u ρ = (t ρ).bnd fun k => match k with
  | true => u
  | false => M.pure false := rfl
@[simp] theorem or_ap : mOr t u ρ = (t ρ).bnd fun k => match k with
  | true => M.pure true
  | false => u := rfl
@[simp] theorem not_ap : mNot t ρ = (t ρ).bnd fun k => M.pure (!k) := rfl
@[simp] theorem andV_ap : mAndV f1 f2 ρ = (f1 ρ).bnd fun d => match d with
  | .bl true => f2
  | .bl false => M.pure (.bl false)
  | _ => M.fail := rfl
@[simp] theorem orV_ap : mOrV f1 f2 ρ = (f1 ρ).bnd fun d => match d with
  | .bl true => M.pure (.bl true)
  | .bl false => f2
  | _ => M.fail := rfl
@[simp] theorem notV_ap : mNotV f ρ = (f ρ).bnd fun d => match d with
  | .bl k => M.pure (.bl (!k))
  | _ => M.fail := rfl
@[simp] theorem mif_ap {α : Type} {a b : M α} : mIf t a b ρ = (t ρ).bnd fun k => match k with
  | true => a
  | false => b := rfl
@[simp] theorem seq_ap : mSeq a b ρ = (a ρ).bnd fun fl => match fl with
  | .nx => b
  | .bk => M.pure .bk
  | .ct => M.pure .ct
  | .rt d o => M.pure (.rt d o) := rfl
@[simp] theorem mnx_ap : mNx ρ = .ok .nx ρ := rfl
@[simp] theorem set_ap : mSet i fo ρ = (fo ρ).bnd (mPut i) := rfl
@[simp] theorem put_ap {p : D × Ob} : mPut i p ρ = match Slot.of p with
  | some s => .ok .nx (ρ.set i s)
  | none => .fail := rfl
@[simp] theorem ok_ff : Ob.ok .ff = true := rfl
@[simp] theorem ok_tt : Ob.ok .tt = true := rfl
@[simp] theorem ok_dp {m : Mk} : Ob.ok (.dp m) = true := rfl
@[simp] theorem sof_ff : Slot.of (d, .ff) = some (.fz d) := rfl
@[simp] theorem sof_tt : Slot.of (d, .tt) = some (.ow d) := rfl
@[simp] theorem sof_dp {m : Mk} : Slot.of (d, .dp m) = some (.dp m d) := rfl
@[simp] theorem ret_ap : mRet fo ρ = (fo ρ).bnd fun p => M.pure (.rt p.1 p.2) := rfl
@[simp] theorem drop_ap : mDrop f ρ = (f ρ).bnd fun _ => mNx := rfl
@[simp] theorem isi_ap {T : String} : mIsi T f ρ = (f ρ).bnd fun d => M.opt (dIsi T d) := rfl
@[simp] theorem par_ap : mPar i j fs ρ = (fs ρ).bnd fun ds ρ => match ds with
  | [x, y] => .ok .nx ((ρ.set i (.fz x)).set j (.fz y))
  | _ => .fail := rfl
@[simp] theorem asg_ap {h : D → Env → Option Env} : mAsg h f ρ = (f ρ).bnd fun d ρ => match h d ρ with
  | some ρ' => .ok .nx ρ'
  | none => .fail := rfl
@[simp] theorem gN_ap : gN i d ρ = some (ρ.set i (.fz d)) := rfl
@[simp] theorem gsN_ap : gsN [] ρ = some ρ := rfl
@[simp] theorem gsC_ap {h : D → Env → Option Env} {hs : List D → Env → Option Env} {r : List D} : gsC h hs (d :: r) ρ = (h d ρ).bind (hs r) := rfl
@[simp] theorem gT_ap {n : Nat} {hs : List D → Env → Option Env} {ds : List D} : gT n hs (.tup ds) ρ = if ds.length = n then hs ds ρ else none := rfl
@[simp] theorem for_ap {h : D → Env → Option Env} : mFor fs h b ρ = (fs ρ).bnd (mForL h b) := rfl
@[simp] theorem forL_nil {h : D → Env → Option Env} : mForL h b [] ρ = .ok .nx ρ := rfl
theorem forL_cons {h : D → Env → Option Env} {r : List D} : mForL h b (d :: r) ρ = match h d ρ with
    | none => .fail
    | some ρ1 => (b ρ1).bnd fun fl => match fl with
      | .nx => mForL h b r
      | .ct => mForL h b r
      | .bk => mNx
      | .rt d o => M.pure (.rt d o) := rfl
@[simp] theorem range1_ap : mRange1 fs ρ = (fs ρ).bnd fun ds => M.opt (match ds with
  | [.int j] => if -100000000 < j ∧ j < 100000000 then some (rangeD 0 j) else none
  | _ => none) := rfl
@[simp] theorem range2_ap : mRange2 fs ρ = (fs ρ).bnd fun ds => M.opt (match ds with
  | [.int i, .int j] => if (-100000000 < i ∧ i < 100000000) ∧ (-100000000 < j ∧ j < 100000000) then some (rangeD i j) else none
  | _ => none) := rfl
@[simp] theorem iter_ap : mIter f ρ = (f ρ).bnd fun d => M.opt (match d with
  | .lst ds => some ds
  | _ => none) := rfl
@[simp] theorem chk_ap : chk i ρ = match ρ[i]? with
  | some (.ow _) => .ok () ρ
  | some (.io _) => .ok () ρ
  | some (.fz _) => .ok () ρ
  | _ => .fail := rfl
@[simp] theorem peek_ap : mPeek i f ρ = (chk i ρ).bnd fun _ => M.bind f fun k ρ => match (contR ρ[i]?).bind fun d => dIxL d k with
  | some z => .ok z ρ
  | none => .fail := rfl
@[simp] theorem putAt_ap : mPutAt i f1 f2 ρ = (f1 ρ).bnd fun d => M.bind (chk i) fun _ => M.bind f2 fun k ρ => match ρ[i]?, k with
  | some (.ow (.lst ds)), .int z => match ixN ds.length z with
    | some j => .ok .nx (ρ.set i (.ow (.lst (ds.set j d))))
    | none => .fail
  | some (.io (.lst ds)), .int z => match ixN ds.length z with
    | some j => .ok .nx (ρ.set i (.io (.lst (ds.set j d))))
    | none => .fail
  | _, _ => .fail := rfl
variable {fx : M (List AV)} {m : Option Nat} {n : Nat} {h : List D → Rf} {av : AV} {avs : List AV} {ds : List D} {sl : Option Slot}
@[simp] theorem xNil_ap : xNil ρ = .ok [] ρ := rfl
@[simp] theorem xV_ap : xV f fx ρ = (f ρ).bnd fun x => M.bind fx fun xs => M.pure (.v x :: xs) := rfl
@[simp] theorem xS_ap : xS i fx ρ = ((match ρ[i]? with
  | some (.ow _) => Rs.ok () ρ
  | some (.io _) => .ok () ρ
  | _ => .fail) : Rs Unit).bnd fun _ => M.bind fx fun xs => M.pure (.s i :: xs) := rfl
@[simp] theorem callN_ap : mCallN n m h fx ρ = (fx ρ).bnd fun avs ρ => (if avs.length = n then match setup ρ m avs with
  | none => .fail
  | some ds => match h ds with
    | .ok d o out => if o.ok = true then .ok (d, o) (match slotOf m avs with
      | none => ρ
      | some i => ρ.set i (reslot ρ[i]? out)) else .fail
    | .rz c => .rz c (match slotOf m avs with
      | none => ρ
      | some i => ρ.set i .un)
    | .fail => .fail else .fail) := by
  unfold mCallN mCallF
  rw [bind_ap, bind_ap]
  cases q : fx ρ with
  | ok avs ρ1 =>
    simp only [ok_bnd]
    split
    · simp only [opt_some, ok_bnd] <;> rfl
    · rfl
  | rz c ρ1 => rfl
  | fail => rfl
@[simp] theorem setup_nil : setup ρ none [] = some [] := rfl
@[simp] theorem setup_v : setup ρ none (.v d :: avs) = (setup ρ none avs).map (d :: ·) := rfl
@[simp] theorem setup_s : setup ρ (some 0) (.s i :: avs) = (contS ρ[i]?).bind fun d => (setup ρ none avs).map (d :: ·) := rfl
@[simp] theorem setup_vs : setup ρ (some (j + 1)) (.v d :: avs) = (setup ρ (some j) avs).map (d :: ·) := rfl
@[simp] theorem slotOf_n : slotOf none avs = none := slotOf_none avs
@[simp] theorem slotOf_s : slotOf (some 0) (.s i :: avs) = some i := rfl
@[simp] theorem slotOf_v : slotOf (some (j + 1)) (av :: avs) = slotOf (some j) avs := by cases av <;> rfl
@[simp] theorem contS_ow : contS (some (.ow d)) = some d := rfl
@[simp] theorem contS_io : contS (some (.io d)) = some d := rfl
@[simp] theorem contR_ow : contR (some (.ow d)) = some d := rfl
@[simp] theorem contR_io : contR (some (.io d)) = some d := rfl
@[simp] theorem contR_fz : contR (some (.fz d)) = some d := rfl
@[simp] theorem reslot_ow : reslot (some (.ow x)) d = .ow d := rfl
@[simp] theorem reslot_io : reslot (some (.io x)) d = .io d := rfl
@[simp] theorem initS_nil : initS none [] = [] := rfl
@[simp] theorem initS_n : initS none (d :: ds) = .fz d :: initS none ds := rfl
@[simp] theorem initS_0 : initS (some 0) (d :: ds) = .io d :: initS none ds := rfl
@[simp] theorem initS_s : initS (some (j + 1)) (d :: ds) = .fz d :: initS (some j) ds := rfl
@[simp] theorem initE_ap : initE m n ds = initS m ds ++ List.replicate (n - ds.length) .un := rfl
@[simp] theorem fin_n {o : Ob} : fin none d o ρ = .ok d o .non := rfl
@[simp] theorem fin_s {o : Ob} : fin (some j) d o ρ = match ρ[j]? with
    | some (.io out) => .ok d o out
    | _ => .fail := rfl
variable {p q : Int} {xs ys : List D} {s1 s2 : Str} {k1 k2 : Bool}
@[simp] theorem dAdd_i : dAdd (.int p) (.int q) = some (.int (p + q)) := rfl
@[simp] theorem dSub_i : dSub (.int p) (.int q) = some (.int (p - q)) := rfl
@[simp] theorem dMul_i : dMul (.int p) (.int q) = if mulOk p q = true then some (.int (p * q)) else none := rfl
@[simp] theorem dDiv_i : dDiv (.int p) (.int q) = if divOk p q = true then some (.int (p.fdiv q)) else none := rfl
@[simp] theorem dMod_i : dMod (.int p) (.int q) = if modOk p q = true then some (.int (p.fmod q)) else none := rfl
@[simp] theorem dPow_i : dPow (.int p) (.int q) = if powOk p q = true then some (.int (p ^ q.toNat)) else none := rfl
@[simp] theorem dLt_i : dLt (.int p) (.int q) = some (.bl (decide (p < q))) := rfl
@[simp] theorem dLe_i : dLe (.int p) (.int q) = some (.bl (decide (p ≤ q))) := rfl
@[simp] theorem dGt_i : dGt (.int p) (.int q) = some (.bl (decide (q < p))) := rfl
@[simp] theorem dGe_i : dGe (.int p) (.int q) = some (.bl (decide (q ≤ p))) := rfl
@[simp] theorem dNeg_i : dNeg (.int p) = some (.int (-p)) := rfl
@[simp] theorem dEq_i : dEq (.int p) (.int q) = some (.bl (decide (p = q))) := by rw [← Bool.beq_eq_decide_eq]; rfl
@[simp] theorem dNe_i : dNe (.int p) (.int q) = some (.bl (!decide (p = q))) := by rw [← Bool.beq_eq_decide_eq]; rfl
@[simp] theorem dEq_s : dEq (.str s1) (.str s2) = some (.bl (decide (s1 = s2))) := by rw [← Bool.beq_eq_decide_eq]; rfl
@[simp] theorem dNe_s : dNe (.str s1) (.str s2) = some (.bl (!decide (s1 = s2))) := by rw [← Bool.beq_eq_decide_eq]; rfl
@[simp] theorem dIs_b : dIs (.bl k1) (.bl k2) = some (.bl (decide (k1 = k2))) := rfl
@[simp] theorem dIsNot_b : dIsNot (.bl k1) (.bl k2) = some (.bl (!decide (k1 = k2))) := rfl
@[simp] theorem dAbs_i : dAbs [.int p] = some (.int ((p.natAbs : Nat) : Int)) := by
  show some (D.int (if p < 0 then -p else p)) = _
  congr 2
  split <;> omega
@[simp] theorem dLen_l : dLen [.lst xs] = some (.int xs.length) := rfl
@[simp] theorem dLen_t : dLen [.tup xs] = some (.int xs.length) := rfl
@[simp] theorem dLen_c {ns : List Int} : dLen [.scr ns] = some (.int ns.length) := rfl
@[simp] theorem dIx_l : dIx (.lst xs) (.int p) = L2.atI xs p := rfl
@[simp] theorem dIx_t : dIx (.tup xs) (.int p) = L2.atI xs p := rfl
@[simp] theorem dIx_c {ns : List Int} : dIx (.scr ns) (.int p) = (L2.atI ns p).map D.int := rfl
@[simp] theorem dIxL_l : dIxL (.lst xs) (.int p) = L2.atI xs p := rfl
@[simp] theorem at0 {α : Type} {x : α} {xs : List α} : L2.atI (x :: xs) 0 = some x := by
  unfold L2.atI ixN
  simp only [List.length_cons]
  rw [if_pos (by decide), if_pos (by omega)]
  rfl
@[simp] theorem at1 {α : Type} {x y : α} {xs : List α} : L2.atI (x :: y :: xs) 1 = some y := by
  unfold L2.atI ixN
  simp only [List.length_cons]
  rw [if_pos (by decide), if_pos (by omega)]
  rfl
@[simp] theorem ix0 {n : Nat} : ixN (n + 1) 0 = some 0 := by
  unfold ixN
  rw [if_pos (by decide), if_pos (by omega)]; rfl
@[simp] theorem ix1 {n : Nat} : ixN (n + 2) 1 = some 1 := by
  unfold ixN
  rw [if_pos (by decide), if_pos (by omega)]; rfl
theorem mulOk_of {p q : Int} {a b : Nat} (hp : p.natAbs < 2 ^ a) (hq : q.natAbs < 2 ^ b) (h : a + b ≤ 90000000) : mulOk p q = true := by
  unfold mulOk
  rw [decide_eq_true_iff]
  have l : ∀ {n k : Nat}, n < 2 ^ k → n.log2 ≤ k := fun {n k} h => by
    rcases Nat.eq_zero_or_pos n with z | z
    · subst z; simp
    · exact Nat.le_of_lt ((Nat.log2_lt (by omega)).mpr h)
  have h1 := l hp
  have h2 := l hq
  omega
theorem divOk_of {p q : Int} (h0 : q ≠ 0) : divOk p q = true := decide_eq_true h0
@[simp] theorem modOk_of {p q : Int} (h0 : q ≠ 0) : modOk p q = true := by
  unfold modOk
  exact decide_eq_true h0
end
end Dt
namespace Dt
open PySem L2
theorem kit1 : kitB "tuple" "tuple" = some true := by decide +kernel
theorem kit2 : kitB "int" "int" = some true := by decide +kernel
theorem kit3 : kitB "int" "bool" = some false := by decide +kernel
theorem kit4 : kitB "bool" "bool" = some true := by decide +kernel
theorem kit5 : kitB "list" "list" = some true := by decide +kernel
theorem kit6 : kitB "bool" "int" = some true := by decide +kernel
theorem kit7 : kitB "str" "str" = some true := by decide +kernel
section
variable {xs : List D} {i : Int} {k k2 : Bool} {x : Str}
@[simp] theorem isi_tt : dIsi "tuple" (.tup xs) = some (.bl true) := by show (kitB "tuple" "tuple").map D.bl = _; rw [kit1]; rfl
@[simp] theorem isi_ii : dIsi "int" (.int i) = some (.bl true) := by show (kitB "int" "int").map D.bl = _; rw [kit2]; rfl
@[simp] theorem isi_ib : dIsi "bool" (.int i) = some (.bl false) := by show (kitB "int" "bool").map D.bl = _; rw [kit3]; rfl
@[simp] theorem isi_bb : dIsi "bool" (.bl k) = some (.bl true) := by show (kitB "bool" "bool").map D.bl = _; rw [kit4]; rfl
@[simp] theorem isi_ll : dIsi "list" (.lst xs) = some (.bl true) := by show (kitB "list" "list").map D.bl = _; rw [kit5]; rfl
@[simp] theorem isi_bi : dIsi "int" (.bl k) = some (.bl true) := by show (kitB "bool" "int").map D.bl = _; rw [kit6]; rfl
@[simp] theorem isi_ss : dIsi "str" (.str x) = some (.bl true) := by show (kitB "str" "str").map D.bl = _; rw [kit7]; rfl
@[simp] theorem dEq_b : dEq (.bl k) (.bl k2) = some (.bl (k == k2)) := by
  cases k <;> cases k2 <;> rfl
@[simp] theorem dNe_b : dNe (.bl k) (.bl k2) = some (.bl (!(k == k2))) := by
  cases k <;> cases k2 <;> rfl
end
end Dt
namespace Dt
open PySem L2
section
variable {i : Nat} {ρ : Env} {f f1 f2 fk fe : M D} {h : Int → Int → Int} {k d old : D} {ds xs : List D} {z x y : Int}
@[simp] theorem listRg1_ap : mListRg1 f ρ = (f ρ).bnd fun d => M.opt (match d with
  | .int j => if -10000 < j ∧ j < 10000 then some (.lst (rangeD 0 j), .tt) else none
  | _ => none) := rfl
@[simp] theorem listRg2_ap : mListRg2 f1 f2 ρ = (f1 ρ).bnd fun c => M.bind f2 fun d => M.opt (match c, d with
  | .int i, .int j => if (-10000 < i ∧ i < 10000) ∧ (-10000 < j ∧ j < 10000) then some (.lst (rangeD i j), .tt) else none
  | _, _ => none) := rfl
@[simp] theorem popAt_ap : mPopAt i fk ρ = (chkL i ρ).bnd fun _ => M.bind fk fun k => mUpdE i (popD k) := rfl
@[simp] theorem updE_ap {g : List D → Option (D × List D)} : mUpdE i g ρ = match ρ[i]? with
  | some (.ow (.lst ds)) => match g ds with
    | some (d, ds') => .ok d (ρ.set i (.ow (.lst ds')))
    | none => .fail
  | some (.io (.lst ds)) => match g ds with
    | some (d, ds') => .ok d (ρ.set i (.io (.lst ds')))
    | none => .fail
  | _ => .fail := rfl
@[simp] theorem ext_ap : mExt i fe ρ = (chkL i ρ).bnd fun _ => M.bind fe fun d => mUpd i fun ds => match d with
  | .lst es => if ds.length + es.length ≤ 100000 then some (ds ++ es) else none
  | _ => none := rfl
@[simp] theorem ins_ap : mIns i fk fe ρ = (chkL i ρ).bnd fun _ => M.bind fk fun c => M.bind fe fun d => mUpd i fun ds => match c with
  | .int z => if ds.length < 10000 ∧ 0 ≤ z ∧ z < 10000 then some (ds.take z.toNat ++ [d] ++ ds.drop z.toNat) else none
  | _ => none := rfl
@[simp] theorem augI_ap : mAugI i h f ρ = (chk i ρ).bnd fun _ => M.bind f fun d ρ => match ρ[i]?, d with
  | some (.fz (.int z)), .int y => .ok .nx (ρ.set i (.fz (.int (h z y))))
  | _, _ => .fail := rfl
@[simp] theorem augAt_ap : mAugAt i h fk fe ρ = (chkL i ρ).bnd fun _ => M.bind fk fun c => M.bind (mGetV i c) fun old => M.bind fe fun d => mUpd i (augD h c old d) := rfl
@[simp] theorem getV_ap : mGetV i k ρ = match (contR ρ[i]?).bind (getV k) with
  | some z => .ok z ρ
  | none => .fail := rfl
@[simp] theorem catO_ap : mCatO f1 f2 ρ = (f1 ρ).bnd fun c => M.bind f2 fun d => M.opt (match c, d with
  | .lst xs, .lst ys => if tooLong (xs.length + ys.length) = true then none else some (.lst (xs ++ ys), .tt)
  | _, _ => none) := rfl
@[simp] theorem repO_ap : mRepO f1 f2 ρ = (f1 ρ).bnd fun c => M.bind f2 fun d => M.opt (match c, d with
  | .lst xs, .int k => if k < 10000 ∧ -10000 < k ∧ xs.length ≤ 1000 then some (.lst (List.replicate k.toNat xs).flatten, .tt) else none
  | _, _ => none) := rfl
@[simp] theorem isiL_ap {T : String} : mIsiL T i ρ = (chk i ρ).bnd fun _ ρ => match (contR ρ[i]?).bind (dIsi T) with
  | some z => .ok z ρ
  | none => .fail := rfl
@[simp] theorem binL_ap {g : D → D → Option D} : mBinL g i f ρ = (chk i ρ).bnd fun _ => M.bind f fun y ρ => match (contR ρ[i]?).bind fun x => g x y with
  | some z => if scalD z = true then .ok z ρ else .fail
  | none => .fail := rfl
@[simp] theorem scal_bl {k : Bool} : scalD (.bl k) = true := rfl
@[simp] theorem lenL_ap : mLenL i ρ = (chk i ρ).bnd fun _ ρ => match (contR ρ[i]?).bind fun d => dLen [d] with
  | some z => .ok z ρ
  | none => .fail := rfl
end
end Dt
namespace Dt
open PySem L2
def kOk : L2.Key → Bool
  | .inl _ => true
  | .inr x => PyData.strOk x
def okD : Nat → D → Bool
  | _, .non => true
  | _, .bl _ => true
  | _, .int _ => true
  | _, .str x => PyData.strOk x
  | 0, _ => false
  | n + 1, .lst xs => xs.all (okD n)
  | n + 1, .tup xs => xs.all (okD n)
  | _ + 1, .scr _ => true
  | _ + 1, .dic _ _ => false
  | _ + 1, .dct _ _ => false
  | _ + 1, .obj _ => false
  | _ + 1, .key ks => ks.all kOk
theorem okD_all {n : Nat} (ih : ∀ d, okD n d = true → d.py.canLay0 = true ∧ d.py.depth ≤ n) : ∀ xs : List D, xs.all (okD n) = true → PyData.canLayAll0 (D.pys xs) = true ∧ PyData.depthAll (D.pys xs) ≤ n
  | [], _ => ⟨by simp [D.pys, PyData.canLayAll0], by simp [D.pys, PyData.depthAll]⟩
  | x :: xs, h => by
    rw [List.all_cons, Bool.and_eq_true] at h
    obtain ⟨a1, a2⟩ := ih x h.1
    obtain ⟨b1, b2⟩ := okD_all ih xs h.2
    refine ⟨by simp [D.pys, PyData.canLayAll0, a1, b1], ?_⟩
    simp only [D.pys, PyData.depthAll]
    omega
theorem canLay_ints : ∀ ns : List Int, PyData.canLayAll0 (ns.map PyData.int) = true
  | [] => by simp [PyData.canLayAll0]
  | n :: ns => by simp [PyData.canLayAll0, PyData.canLay0, canLay_ints ns]
theorem depth_ints : ∀ ns : List Int, PyData.depthAll (ns.map PyData.int) = 0
  | [] => by simp [PyData.depthAll]
  | n :: ns => by simp [PyData.depthAll, PyData.depth, depth_ints ns]
theorem canLay_keys : ∀ ks : List L2.Key, ks.all kOk = true → PyData.canLayAll0 (ks.map kPy) = true
  | [], _ => by simp [PyData.canLayAll0]
  | .inl n :: ns, h => by
    rw [List.all_cons, Bool.and_eq_true] at h
    simp [kPy, PyData.canLayAll0, PyData.canLay0, canLay_keys ns h.2]
  | .inr n :: ns, h => by
    rw [List.all_cons, Bool.and_eq_true] at h
    have h1 : PyData.strOk n = true := h.1
    simp [kPy, PyData.canLayAll0, PyData.canLay0, h1, canLay_keys ns h.2]
theorem depth_keys : ∀ ks : List L2.Key, PyData.depthAll (ks.map kPy) = 0
  | [] => by simp [PyData.depthAll]
  | .inl n :: ns => by simp [kPy, PyData.depthAll, PyData.depth, depth_keys ns]
  | .inr n :: ns => by simp [kPy, PyData.depthAll, PyData.depth, depth_keys ns]
theorem okD_ok : ∀ (n : Nat) (d : D), okD n d = true → d.py.canLay0 = true ∧ d.py.depth ≤ n
  | 0, .non, _ => by simp [D.py, PyData.canLay0, PyData.depth]
  | 0, .bl _, _ => by simp [D.py, PyData.canLay0, PyData.depth]
  | 0, .int _, _ => by simp [D.py, PyData.canLay0, PyData.depth]
  | 0, .str x, h => by
    have h' : PyData.strOk x = true := h
    simp [D.py, PyData.canLay0, PyData.depth, h']
  | 0, .lst _, h => by cases h
  | 0, .tup _, h => by cases h
  | 0, .scr _, h => by cases h
  | 0, .dic _ _, h => by cases h
  | 0, .dct _ _, h => by cases h
  | 0, .obj _, h => by cases h
  | 0, .key _, h => by cases h
  | n + 1, .dic _ _, h => by cases h
  | n + 1, .dct _ _, h => by cases h
  | n + 1, .obj _, h => by cases h
  | n + 1, .key ks, h => by
    have h' : ks.all kOk = true := h
    simp [D.py, PyData.canLay0, PyData.depth, canLay_keys ks h', depth_keys ks]
  | n + 1, .non, _ => by simp [D.py, PyData.canLay0, PyData.depth]
  | n + 1, .bl _, _ => by simp [D.py, PyData.canLay0, PyData.depth]
  | n + 1, .int _, _ => by simp [D.py, PyData.canLay0, PyData.depth]
  | n + 1, .str x, h => by
    have h' : PyData.strOk x = true := h
    simp [D.py, PyData.canLay0, PyData.depth, h']
  | n + 1, .lst xs, h => by
    obtain ⟨a, b⟩ := okD_all (okD_ok n) xs h
    refine ⟨by simp [D.py, PyData.canLay0, a], ?_⟩
    simp only [D.py, PyData.depth]
    omega
  | n + 1, .tup xs, h => by
    obtain ⟨a, b⟩ := okD_all (okD_ok n) xs h
    refine ⟨by simp [D.py, PyData.canLay0, a], ?_⟩
    simp only [D.py, PyData.depth]
    omega
  | n + 1, .scr ns, _ => by
    have h1 := canLay_ints ns
    have h2 := depth_ints ns
    refine ⟨by simp [D.py, PyData.canLay0, h1], ?_⟩
    simp only [D.py, PyData.depth]
    omega
theorem shp_of {n : Nat} {d : D} (h : okD n d = true) (hn : n ≤ 64) : shp d = true := by
  obtain ⟨a, b⟩ := okD_ok n d h
  show (d.py.canLay0 && decide (d.py.depth ≤ 64)) = true
  rw [a, Bool.true_and, decide_eq_true_iff]
  omega
def plD : Nat → D → Bool
  | _, .non => true
  | _, .int _ => true
  | _, .str _ => true
  | n + 1, .lst xs => xs.all (plD n)
  | n + 1, .tup xs => xs.all (plD n)
  | _, _ => false
theorem eqv_all {n : Nat} (ih : ∀ d e, plD n d = true → plD n e = true → (PyData.eqv d.py e.py = true ↔ d = e)) : ∀ xs ys : List D, xs.all (plD n) = true → ys.all (plD n) = true → (PyData.eqvAll (D.pys xs) (D.pys ys) = true ↔ xs = ys)
  | [], [], _, _ => by simp [D.pys, PyData.eqvAll]
  | [], _ :: _, _, _ => by simp [D.pys, PyData.eqvAll]
  | _ :: _, [], _, _ => by simp [D.pys, PyData.eqvAll]
  | x :: xs, y :: ys, h, k => by
    rw [List.all_cons, Bool.and_eq_true] at h k
    have h1 := ih x y h.1 k.1
    have h2 := eqv_all ih xs ys h.2 k.2
    simp only [D.pys, PyData.eqvAll, Bool.and_eq_true, h1, h2, List.cons.injEq]
theorem eqv_iff : ∀ (n : Nat) (d e : D), plD n d = true → plD n e = true → (PyData.eqv d.py e.py = true ↔ d = e) := by
  intro n
  induction n with
  | zero =>
    intro d e h k
    cases d <;> cases e <;> first | (simp [D.py, PyData.eqv]; done) | (exact absurd h Bool.false_ne_true) | (exact absurd k Bool.false_ne_true)
  | succ n ih =>
    intro d e h k
    cases d with
    | bl _ => cases h
    | scr _ => cases h
    | dic _ _ => cases h
    | dct _ _ => cases h
    | obj _ => cases h
    | key _ => cases h
    | lst xs =>
      cases e with
      | lst ys =>
        have := eqv_all ih xs ys h k
        simp only [D.py, PyData.eqv, this, D.lst.injEq]
      | bl _ => cases k
      | scr _ => cases k
      | dic _ _ => cases k
      | dct _ _ => cases k
      | obj _ => cases k
      | key _ => cases k
      | _ => simp [D.py, PyData.eqv]
    | tup xs =>
      cases e with
      | tup ys =>
        have := eqv_all ih xs ys h k
        simp only [D.py, PyData.eqv, this, D.tup.injEq]
      | bl _ => cases k
      | scr _ => cases k
      | dic _ _ => cases k
      | dct _ _ => cases k
      | obj _ => cases k
      | key _ => cases k
      | _ => simp [D.py, PyData.eqv]
    | _ =>
      cases e with
      | bl _ => cases k
      | scr _ => cases k
      | dic _ _ => cases k
      | dct _ _ => cases k
      | obj _ => cases k
      | key _ => cases k
      | _ => simp [D.py, PyData.eqv]
def gdD (d : D) : Prop := okD 20 d = true ∧ plD 20 d = true
theorem dEq_self {d : D} (h : gdD d) : dEq d d = some (.bl true) := by
  have s := shp_of h.1 (by decide)
  have q := (eqv_iff 20 d d h.2 h.2).mpr rfl
  cases d with
  | int i => simp
  | str x => simp
  | _ => simp [dEq, s, q]
theorem dEq_ne {d e : D} (h : gdD d) (k : gdD e) (n : d ≠ e) : dEq d e = some (.bl false) := by
  have s := shp_of h.1 (by decide)
  have s2 := shp_of k.1 (by decide)
  have q : PyData.eqv d.py e.py = false := by
    cases z : PyData.eqv d.py e.py with
    | false => rfl
    | true => exact absurd ((eqv_iff 20 d e h.2 k.2).mp z) n
  unfold dEq
  split
  · rename_i i j
    have : i ≠ j := fun z => n (by rw [z])
    simp [this]
  · rename_i i j
    have : i ≠ j := fun z => n (by rw [z])
    simp [this]
  · rw [if_pos ⟨s, s2⟩, q]
theorem dNe_not {d e : D} {k : Bool} (h : dEq d e = some (.bl k)) : dNe d e = some (.bl (!k)) := by
  cases d <;> cases e <;> simp only [dEq, dNe] at h ⊢ <;> first | (injection h with h; injection h with h; rw [h]; done) | (split at h <;> first | (injection h with h; injection h with h; rename_i hh; rw [if_pos hh, h]) | cases h)
end Dt
namespace Dt
section
variable {n : Nat} {i : Int} {k : Bool} {xs : List D}
@[simp] theorem okD_int : okD n (.int i) = true := by cases n <;> rfl
@[simp] theorem okD_non : okD n .non = true := by cases n <;> rfl
@[simp] theorem okD_bl : okD n (.bl k) = true := by cases n <;> rfl
@[simp] theorem okD_lst : okD (n + 1) (.lst xs) = xs.all (okD n) := rfl
@[simp] theorem okD_tup : okD (n + 1) (.tup xs) = xs.all (okD n) := rfl
@[simp] theorem plD_int : plD n (.int i) = true := by cases n <;> rfl
@[simp] theorem plD_non : plD n .non = true := by cases n <;> rfl
@[simp] theorem plD_lst : plD (n + 1) (.lst xs) = xs.all (plD n) := rfl
@[simp] theorem plD_tup : plD (n + 1) (.tup xs) = xs.all (plD n) := rfl
end
end Dt
namespace Dt
open PySem L2
def fq (q : Rat) : D := .tup [.int q.num, .int (q.den : Int)]
def eL {α : Type} (f : α → D) (xs : List α) : D := .lst (xs.map f)
def eV {α : Type} (f : α → D) (xs : List α) : D := .tup (xs.map f)
def eT2 {α β : Type} (f : α → D) (g : β → D) (p : α × β) : D := .tup [f p.1, g p.2]
def eT3 {α β γ : Type} (f : α → D) (g : β → D) (h : γ → D) (p : α × β × γ) : D := .tup [f p.1, g p.2.1, h p.2.2]
def eT4 {α β γ δ : Type} (f : α → D) (g : β → D) (h : γ → D) (k : δ → D) (p : α × β × γ × δ) : D := .tup [f p.1, g p.2.1, h p.2.2.1, k p.2.2.2]
def eN (_ : Unit) : D := .non
abbrev Num := List Rat ⊕ List Int
abbrev Com := Str × Num
def mkq (p : Int × Int) : Rat := Rat.divInt p.1 p.2
def IsQ (p : Int × Int) : Prop := 0 < p.2 ∧ Nat.gcd p.1.natAbs p.2.natAbs = 1
abbrev Line := List Rat × Rat × Int × Str
abbrev Way := Int × Rat
abbrev Stand := Int × Rat × List Way
abbrev Net := List Line × List Stand × Com
def bd {α β : Sort _} (v : α) (b : α → β) : β := b v
def ixN' (n : Nat) (i : Int) : Nat := if i < 0 then (i + n).toNat else i.toNat
def ix {α : Type} [Inhabited α] (xs : List α) (i : Int) : α := xs.getD (ixN' xs.length i) default
def InB (n : Nat) (i : Int) : Prop := -(n : Int) ≤ i ∧ i < n
def setI {α : Type} (xs : List α) (i : Int) (v : α) : List α := xs.set (ixN' xs.length i) v
def rangeI (lo hi : Int) : List Int := (List.range (hi - lo).toNat).map fun (i : Nat) => lo + (i : Int)
def enumI {α : Type} (xs : List α) : List (Int × α) := (rangeI 0 xs.length).zip xs
def cut {α : Type} (xs : List α) (lo hi : Option Int) : List α := (xs.drop (HT.sIx xs.length 0 lo)).take (HT.sIx xs.length xs.length hi - HT.sIx xs.length 0 lo)
def repI {α : Type} (xs : List α) (k : Int) : List α := (List.replicate k.toNat xs).flatten
def maxL : List Int → Int
  | [] => 0
  | n :: ns => ns.foldl max n
def minL : List Int → Int
  | [] => 0
  | n :: ns => ns.foldl min n
def b2i (k : Bool) : Int := if k then 1 else 0
def rp (d : D) : Str := d.py.shown
def sfl {σ α : Type} (f : σ → α → σ) (S : σ → α → Prop) : List α → σ → Prop
  | [], _ => True
  | x :: r, s => S s x ∧ sfl f S r (f s x)
inductive Fw (σ ρ : Type) where
  | nx (s : σ)
  | rt (v : ρ)
def flw {σ α ρ : Type} (f : σ → α → Fw σ ρ) : List α → σ → Fw σ ρ
  | [], s => .nx s
  | x :: r, s => match f s x with
    | .nx s' => flw f r s'
    | .rt v => .rt v
def sflw {σ α ρ : Type} (f : σ → α → Fw σ ρ) (S : σ → α → Prop) : List α → σ → Prop
  | [], _ => True
  | x :: r, s => S s x ∧ match f s x with
    | .nx s' => sflw f S r s'
    | .rt _ => True
def fwc {σ ρ β : Type} (w : Fw σ ρ) (kr : ρ → β) (kn : σ → β) : β := match w with
  | .nx s => kn s
  | .rt v => kr v
def sfwc {σ ρ : Type} (w : Fw σ ρ) (S : σ → Prop) : Prop := match w with
  | .nx s => S s
  | .rt _ => True
def lcS {σ α β : Type} (p : α → σ → Bool × σ) (e : α → σ → β × σ) : List α → σ → List β × σ
  | [], s => ([], s)
  | x :: r, s => cond (p x s).1 (((e x (p x s).2).1 :: (lcS p e r (e x (p x s).2).2).1), (lcS p e r (e x (p x s).2).2).2) (lcS p e r (p x s).2)
def slcS {σ α β : Type} (p : α → σ → Bool × σ) (e : α → σ → β × σ) (S : α → σ → Prop) : List α → σ → Prop
  | [], _ => True
  | x :: r, s => S x s ∧ (((p x s).1 = true) → slcS p e S r (e x (p x s).2).2) ∧ (((p x s).1 = false) → slcS p e S r (p x s).2)
theorem sfwc_T {σ ρ : Type} {w : Fw σ ρ} : sfwc w (fun _ => True) := by cases w <;> trivial
section
variable {ρ ρ1 ρ2 ρ3 : Env} {i j n : Nat} {x y z d : D} {xs ys ds : List D} {f f1 f2 f3 fk fe : M D} {fs : M (List D)} {fo : M (D × Ob)} {g : D → D → Option D} {g1 : D → Option D} {gs : List D → Option D} {t u : M Bool} {c c2 : Bool} {o : Ob}
theorem v_fz (h : ρ[i]? = some (.fz d)) : mVar i ρ = .ok d ρ := by unfold mVar; rw [h]
theorem vf (i : Nat) (h : ρ[i]? = some (.fz d)) : mVar i ρ = .ok d ρ := v_fz h
abbrev zI (x : Int) : Slot := .fz (.int x)
abbrev zQ (x : Rat) : Slot := .fz (fq x)
abbrev zJ (x : List Int) : Slot := .fz (eL D.int x)
theorem b2 (h1 : f1 ρ = .ok x ρ1) (h2 : f2 ρ1 = .ok y ρ2) (h3 : g x y = some z) : mBin g f1 f2 ρ = .ok z ρ2 := by
  unfold mBin M.bind; rw [h1]; dsimp only; rw [h2]; dsimp only; unfold M.opt; rw [h3]
theorem u1 (h1 : f ρ = .ok x ρ1) (h3 : g1 x = some z) : mUn g1 f ρ = .ok z ρ1 := by
  unfold mUn M.bind; rw [h1]; dsimp only; unfold M.opt; rw [h3]
theorem a0 : mNil ρ = .ok [] ρ := rfl
theorem a1 (h1 : f ρ = .ok x ρ1) (h2 : fs ρ1 = .ok xs ρ2) : mCons f fs ρ = .ok (x :: xs) ρ2 := by
  unfold mCons M.bind; rw [h1]; dsimp only; rw [h2]; rfl
theorem c1 (h : fs ρ = .ok xs ρ1) (h2 : gs xs = some d) : mCall gs fs ρ = .ok d ρ1 := by
  unfold mCall M.bind; rw [h]; dsimp only; unfold M.opt; rw [h2]
theorem x0 : xNil ρ = .ok [] ρ := rfl
theorem x1 {fx : M (List AV)} {avs : List AV} (h1 : f ρ = .ok x ρ1) (h2 : fx ρ1 = .ok avs ρ2) : xV f fx ρ = .ok (.v x :: avs) ρ2 := by
  unfold xV M.bind; rw [h1]; dsimp only; rw [h2]; rfl
theorem x1s {fx : M (List AV)} {avs : List AV} {s : Slot} (h1 : ρ[i]? = some s) (ho : flat s = true) (h2 : fx ρ = .ok avs ρ2) : xS i fx ρ = .ok (.s i :: avs) ρ2 := by
  unfold xS M.bind; dsimp only; rw [h1]
  cases s with
  | ow d => dsimp only; rw [h2]; rfl
  | io d => dsimp only; rw [h2]; rfl
  | un => cases ho
  | fz d => cases ho
  | dp m d => cases ho
def aft (m : Option Nat) (avs : List AV) (ρ : Env) (out : D) : Env := match slotOf m avs with
  | none => ρ
  | some i => ρ.set i (reslot ρ[i]? out)
theorem cN {fx : M (List AV)} {avs : List AV} {m : Option Nat} {fn : List D → Rf} {out : D} (h : fx ρ = .ok avs ρ1) (hl : avs.length = n) (hs : setup ρ1 m avs = some ds) (hf : fn ds = .ok d o out)
    (hr : aft m avs ρ1 out = ρ2) (ho : o.ok = true := by rfl) : mCallN n m fn fx ρ = .ok (d, o) ρ2 := by
  unfold mCallN mCallF M.bind
  rw [h]; dsimp only
  rw [if_pos hl]
  unfold M.opt; dsimp only
  rw [hs]; dsimp only
  rw [hf]; dsimp only
  rw [if_pos ho, ← hr]; rfl
theorem mfz (h : fo ρ = .ok (d, o) ρ1) (ho : o.ok = true := by rfl) : mFz fo ρ = .ok d ρ1 := by unfold mFz M.bind; rw [h]; dsimp only; rw [if_pos ho]; rfl
theorem mof (h : f ρ = .ok d ρ1) : mOf f ρ = .ok (d, .ff) ρ1 := by unfold mOf M.bind; rw [h]; rfl
theorem mtup (h : fs ρ = .ok xs ρ1) (hl : Nat.ble xs.length 10000 = true := by rfl) : mTup fs ρ = .ok (.tup xs) ρ1 := by
  unfold mTup M.bind; rw [h]; dsimp only; rw [if_pos (Nat.le_of_ble_eq_true hl)]; rfl
theorem mlst (h : fs ρ = .ok xs ρ1) (hl : Nat.ble xs.length 10000 = true := by rfl) : mLst fs ρ = .ok (.lst xs, .tt) ρ1 := by
  unfold mLst M.bind; rw [h]; dsimp only; rw [if_pos (Nat.le_of_ble_eq_true hl)]; rfl
theorem tst (h : f ρ = .ok (.bl c) ρ1) : mTest f ρ = .ok c ρ1 := by unfold mTest M.bind; rw [h]; rfl
theorem nt (h : t ρ = .ok c ρ1) : mNot t ρ = .ok (!c) ρ1 := by unfold mNot M.bind; rw [h]; rfl
theorem an (h1 : t ρ = .ok c ρ1) (h2 : c = true → u ρ1 = .ok c2 ρ1) : mAnd t u ρ = .ok (c && c2) ρ1 := by
  unfold mAnd M.bind; rw [h1]
  cases c with
  | true => exact h2 rfl
  | false => rfl
theorem orr (h1 : t ρ = .ok c ρ1) (h2 : c = false → u ρ1 = .ok c2 ρ1) : mOr t u ρ = .ok (c || c2) ρ1 := by
  unfold mOr M.bind; rw [h1]
  cases c with
  | false => exact h2 rfl
  | true => rfl
theorem anV (h1 : f1 ρ = .ok (.bl c) ρ1) (h2 : c = true → f2 ρ1 = .ok (.bl c2) ρ1) : mAndV f1 f2 ρ = .ok (.bl (c && c2)) ρ1 := by
  unfold mAndV M.bind; rw [h1]
  cases c with
  | true => exact h2 rfl
  | false => rfl
theorem orV (h1 : f1 ρ = .ok (.bl c) ρ1) (h2 : c = false → f2 ρ1 = .ok (.bl c2) ρ1) : mOrV f1 f2 ρ = .ok (.bl (c || c2)) ρ1 := by
  unfold mOrV M.bind; rw [h1]
  cases c with
  | false => exact h2 rfl
  | true => rfl
theorem ntV (h1 : f ρ = .ok (.bl c) ρ1) : mNotV f ρ = .ok (.bl (!c)) ρ1 := by unfold mNotV M.bind; rw [h1]; rfl
theorem chn {g' : D → D → Option D} {w : D} (h1 : f1 ρ = .ok x ρ1) (h2 : f2 ρ1 = .ok y ρ2) (h3 : g x y = some (.bl c)) (h4 : c = true → f3 ρ2 = .ok w ρ2) (h5 : c = true → g' y w = some (.bl c2)) : mChain g g' f1 f2 f3 ρ = .ok (.bl (c && c2)) ρ2 := by
  unfold mChain M.bind; rw [h1]; dsimp only; rw [h2]; dsimp only; unfold M.opt; rw [h3]; dsimp only
  cases c with
  | true => dsimp only; rw [h4 rfl]; dsimp only; rw [h5 rfl]; rfl
  | false => rfl
end
section
variable {α β : Type} {F : α → D} {G : β → D} {p q : Int} {s1 s2 : Str} {k1 k2 : Bool}
theorem o_mul (h : mulOk p q = true) : dMul (.int p) (.int q) = some (.int (p * q)) := if_pos h
theorem o_mod (h : q ≠ 0) : dMod (.int p) (.int q) = some (.int (p.fmod q)) := if_pos (decide_eq_true h)
theorem ixN_of {n : Nat} {i : Int} (h : InB n i) : ixN n i = some (ixN' n i) ∧ ixN' n i < n := by
  obtain ⟨h1, h2⟩ := h
  unfold ixN ixN'
  by_cases q : i < 0
  · rw [if_neg (by omega), if_pos h1, if_pos q]; exact ⟨rfl, by omega⟩
  · rw [if_pos (by omega), if_pos h2, if_neg q]; exact ⟨rfl, by omega⟩
theorem at_of {γ : Type} {F : α → γ} [Inhabited α] {xs : List α} {i : Int} (h : InB xs.length i) : L2.atI (xs.map F) i = some (F (ix xs i)) := by
  obtain ⟨h1, h2⟩ := ixN_of h
  unfold L2.atI ix
  rw [List.length_map, h1]
  show (xs.map F)[ixN' xs.length i]? = _
  rw [List.getElem?_map, List.getElem?_eq_getElem h2, List.getD_eq_getElem?_getD, List.getElem?_eq_getElem h2]
  rfl
theorem o_ixL [Inhabited α] {xs : List α} (h : InB xs.length p) : dIx (eL F xs) (.int p) = some (F (ix xs p)) := at_of h
theorem o_ixLL [Inhabited α] {xs : List α} (h : InB xs.length p) : dIxL (eL F xs) (.int p) = some (F (ix xs p)) := at_of h
theorem o_addL {xs ys : List α} (h : xs.length + ys.length ≤ 10000) : dAdd (eL F xs) (eL F ys) = some (eL F (xs ++ ys)) := by
  unfold eL dAdd
  rw [List.map_append]
  show (if tooLong ((xs.map F).length + (ys.map F).length) = true then none else _) = _
  rw [if_neg (by unfold tooLong; rw [decide_eq_true_iff, List.length_map, List.length_map]; omega)]
theorem map_flat {xs : List α} : ∀ k : Nat, (List.replicate k (xs.map F)).flatten = (List.replicate k xs).flatten.map F
  | 0 => rfl
  | k + 1 => by rw [List.replicate_succ, List.replicate_succ, List.flatten_cons, List.flatten_cons, List.map_append, map_flat k]
theorem o_mulL {xs : List α} (h : q < 10000 ∧ -10000 < q ∧ xs.length ≤ 1000) : dMul (eL F xs) (.int q) = some (eL F (repI xs q)) := by
  unfold eL repI
  show (if q < 10000 ∧ -10000 < q ∧ (xs.map F).length ≤ 1000 then _ else none) = _
  rw [if_pos (by rw [List.length_map]; exact h), map_flat]
theorem o_lenL {xs : List α} : dLen [eL F xs] = some (.int xs.length) := by
  show some (D.int ((xs.map F).length : Int)) = _
  rw [List.length_map]
theorem o_sum {xs : List Int} : dSum [eL D.int xs] = some (.int xs.sum) := by
  show (asInts (xs.map D.int)).map (fun ns => D.int ns.sum) = _
  rw [asInts_map]; rfl
theorem o_maxL {xs : List Int} (h : xs ≠ []) : dMaxL [eL D.int xs] = some (.int (maxL xs)) := by
  show ((asInts (xs.map D.int)).bind maxI).map D.int = _
  rw [asInts_map]
  cases xs with
  | nil => exact absurd rfl h
  | cons n ns => rfl
theorem o_minL {xs : List Int} (h : xs ≠ []) : dMinL [eL D.int xs] = some (.int (minL xs)) := by
  show ((asInts (xs.map D.int)).bind minI).map D.int = _
  rw [asInts_map]
  cases xs with
  | nil => exact absurd rfl h
  | cons n ns => rfl
end
end Dt
namespace Dt
open PySem PySem.Spec PyProof.Rows L2
def mKill (is : List Nat) : M Fl := fun ρ => .ok .nx (wipeE ρ is)
def mFrz (i : Nat) : M Fl := fun ρ => match ρ[i]? with
  | some (.ow d) => .ok .nx (ρ.set i (.fz d))
  | some (.dp _ d) => .ok .nx (ρ.set i (.fz d))
  | _ => .ok .nx ρ
theorem Lv.kill {K : PySem.W.Frag} {F : Fr} {ρ : Env} {σ : St} {B H : Hp} (L : Lv K F ρ σ B H) : ∀ is : List Nat, Lv K F (wipeE ρ is) σ B H
  | [] => L
  | i :: is => (Lv.kill L is).slot rfl (fun d z => nomatch z)
section
variable {X : Cx} {W : WX} {sts : List Stmt} {f : M Fl} {is : List Nat} {i : Nat}
theorem svs_kill (h : SVs X W sts f) : SVs X W sts (mSeq (mKill is) f) := fun F ρ σ B H N L P => h F _ σ B H N (L.kill is) P
theorem svs_frz (h : SVs X W sts f) : SVs X W sts (mSeq (mFrz i) f) := by
  intro F ρ σ B H N L P
  have P' : PostS X W F B (M.bind (mFrz i) _ ρ) N := P
  unfold M.bind mFrz at P'
  cases q : ρ[i]? with
  | none => rw [q] at P'; exact h F ρ σ B H N L P'
  | some s =>
    cases s with
    | ow d =>
      rw [q] at P'
      obtain ⟨B', v, e1, _, _, L'⟩ := L.frz q
      exact h F _ σ B' H N L' (PostS.weak P' e1)
    | dp m d =>
      rw [q] at P'
      obtain ⟨B', v, e1, _, _, L'⟩ := L.frz0 q rfl
      exact h F _ σ B' H N L' (PostS.weak P' e1)
    | un => rw [q] at P'; exact h F ρ σ B H N L P'
    | fz d => rw [q] at P'; exact h F ρ σ B H N L P'
    | io d => rw [q] at P'; exact h F ρ σ B H N L P'
end
section
variable {α β : Type} {F : α → D} {G : β → D} {ρ ρ1 ρ2 : Env} {f f1 f2 : M D} {fs : M (List D)} {ds : List D}
theorem rangeD_eq (lo hi : Int) : rangeD lo hi = (rangeI lo hi).map D.int := by
  unfold rangeD rangeI
  rw [List.map_map]; rfl
theorem i_L {xs : List α} (h : f ρ = .ok (eL F xs) ρ1) : mIter f ρ = .ok (xs.map F) ρ1 := by unfold mIter M.bind; rw [h]; rfl
theorem i_r1 {j : Int} (h : fs ρ = .ok [.int j] ρ1) (hb : -100000000 < j ∧ j < 100000000) : mRange1 fs ρ = .ok ((rangeI 0 j).map D.int) ρ1 := by
  unfold mRange1 M.bind; rw [h]; dsimp only; rw [if_pos hb, rangeD_eq]; rfl
theorem zip_eq : ∀ (xs : List α) (ys : List β), List.zipWith (fun x y => D.tup [x, y]) (xs.map F) (ys.map G) = (xs.zip ys).map (eT2 F G)
  | [], ys => by simp
  | x :: xs, [] => by simp
  | x :: xs, y :: ys => by
    simp only [List.map_cons, List.zipWith_cons_cons, List.zip_cons_cons, zip_eq xs ys]
    rfl
theorem i_zip {xs : List α} {ys : List β} (h : fs ρ = .ok [eL F xs, eL G ys] ρ1) : mZip fs ρ = .ok ((xs.zip ys).map (eT2 F G)) ρ1 := by
  unfold mZip M.bind; rw [h]; dsimp only [eL]; rw [zip_eq]; rfl
theorem enum_eq : ∀ (k : Nat) (xs : List α), enumD k (xs.map F) = (((List.range' k xs.length).map fun (i : Nat) => (i : Int)).zip xs).map (eT2 D.int F)
  | k, [] => rfl
  | k, x :: xs => by
    rw [List.map_cons, List.length_cons, List.range'_succ]
    show D.tup [.int (k : Nat), F x] :: enumD (k + 1) (xs.map F) = _
    rw [enum_eq (k + 1) xs]; rfl
theorem rangeI_nat (n : Nat) : rangeI 0 n = (List.range' 0 n).map fun (i : Nat) => (i : Int) := by
  unfold rangeI
  rw [Int.sub_zero, Int.toNat_natCast, List.range_eq_range']
  refine List.map_congr_left fun i _ => ?_
  omega
theorem i_enum {xs : List α} (h : fs ρ = .ok [eL F xs] ρ1) : mEnum fs ρ = .ok ((enumI xs).map (eT2 D.int F)) ρ1 := by
  unfold mEnum M.bind; rw [h]; dsimp only [eL]; rw [enum_eq]; unfold enumI; rw [rangeI_nat]; rfl
theorem cut_map {xs : List α} {lo hi : Option Int} : cutD (xs.map F) lo hi = (cut xs lo hi).map F := by
  unfold cutD cut
  rw [List.length_map, List.map_take, List.map_drop]
theorem pt0 : mPart none ρ = .ok none ρ := rfl
theorem pt1 {i : Int} (h : f ρ = .ok (.int i) ρ1) : mPart (some f) ρ = .ok (some i) ρ1 := by unfold mPart M.bind; dsimp only; rw [h]; rfl
theorem slL {xs : List α} {fl fh : M (Option Int)} {lo hi : Option Int} {ρ3 : Env} (h : f ρ = .ok (eL F xs) ρ1) (hl : fl ρ1 = .ok lo ρ2) (hh : fh ρ2 = .ok hi ρ3) : mSl f fl fh ρ = .ok (eL F (cut xs lo hi), .tt) ρ3 := by
  unfold mSl M.bind; rw [h]; dsimp only; rw [hl]; dsimp only; rw [hh]; dsimp only [eL, dSl]; rw [cut_map]; rfl
theorem lofL {xs : List α} (h : fs ρ = .ok [eL F xs] ρ1) : mListOf fs ρ = .ok (eL F xs, .tt) ρ1 := by unfold mListOf M.bind; rw [h]; rfl
theorem lrg1 {j : Int} (h : f ρ = .ok (.int j) ρ1) (hb : -10000 < j ∧ j < 10000) : mListRg1 f ρ = .ok (eL D.int (rangeI 0 j), .tt) ρ1 := by
  unfold mListRg1 M.bind; rw [h]; dsimp only; rw [if_pos hb, rangeD_eq]; rfl
theorem repO {xs : List α} {q : Int} (h : f1 ρ = .ok (eL F xs) ρ1) (h2 : f2 ρ1 = .ok (.int q) ρ2) (hl : q < 10000 ∧ -10000 < q ∧ xs.length ≤ 1000) : mRepO f1 f2 ρ = .ok (eL F (repI xs q), .tt) ρ2 := by
  unfold mRepO M.bind; rw [h]; dsimp only; rw [h2]; dsimp only [eL]
  rw [if_pos (by rw [List.length_map]; exact hl), map_flat]; rfl
end
section
variable {α β σ : Type} {F : α → D} {G : β → D} {own : List Nat} {f : M (List D)} {g : D → Env → Option Env} {t : M Bool} {e : M D} {ρ ρ0 ρ1 ρ9 : Env}
theorem lcL_pure {p : α → Bool} {φ : α → β} : ∀ (xs : List α) (acc : List D), (∀ x ∈ xs, ∃ ρx, g (F x) ρ1 = some ρx ∧ t ρx = .ok (p x) ρx ∧ wipeE ρx own = ρ1 ∧ (p x = true → ∃ ρz, e ρx = .ok (G (φ x)) ρz ∧ wipeE ρz own = ρ1)) → acc.length + xs.length ≤ 10000 →
    mLcL own g t e (xs.map F) acc ρ1 = .ok (acc ++ ((xs.filter p).map φ).map G) ρ1
  | [], acc, _, _ => by simp [mLcL, M.pure]
  | x :: xs, acc, h, hl => by
    obtain ⟨ρx, h1, h2, h3, h4⟩ := h x (by simp)
    rw [List.length_cons] at hl
    have ih := fun acc' hl' => lcL_pure (p := p) (φ := φ) xs acc' (fun y hy => h y (List.mem_cons_of_mem _ hy)) hl'
    rw [List.map_cons]
    unfold mLcL
    rw [h1]
    dsimp only
    unfold M.bind mNoR
    rw [h2]
    dsimp only
    cases q : p x with
    | false =>
      rw [List.filter_cons_of_neg (by simp [q])]
      dsimp only
      rw [h3]
      exact ih acc (by omega)
    | true =>
      obtain ⟨ρz, h5, h6⟩ := h4 q
      rw [List.filter_cons_of_pos q]
      dsimp only
      rw [h5]
      dsimp only
      rw [if_pos (by omega), h6, ih _ (by rw [List.length_append, List.length_singleton]; omega)]
      simp
theorem lcP {p : α → Bool} {φ : α → β} {xs : List α} (hf : f ρ = .ok (xs.map F) ρ0) (hρ : wipeE ρ0 own = ρ1) (hb : ∀ x ∈ xs, ∃ ρx, g (F x) ρ1 = some ρx ∧ t ρx = .ok (p x) ρx ∧ wipeE ρx own = ρ1 ∧ (p x = true → ∃ ρz, e ρx = .ok (G (φ x)) ρz ∧ wipeE ρz own = ρ1)) (hl : xs.length ≤ 10000) (h9 : wipeE ρ1 own = ρ9) :
    mLc own f g t e ρ = .ok (eL G ((xs.filter p).map φ), .tt) ρ9 := by
  unfold mLc M.bind
  rw [hf]
  dsimp only
  rw [hρ, lcL_pure xs [] hb (by simpa using hl)]
  dsimp only
  rw [h9]; rfl
theorem lcM {φ : α → β} {xs : List α} (hf : f ρ = .ok (xs.map F) ρ0) (hρ : wipeE ρ0 own = ρ1) (hb : ∀ x ∈ xs, ∃ ρx, g (F x) ρ1 = some ρx ∧ wipeE ρx own = ρ1 ∧ ∃ ρz, e ρx = .ok (G (φ x)) ρz ∧ wipeE ρz own = ρ1) (hl : xs.length ≤ 10000) (h9 : wipeE ρ1 own = ρ9) :
    mLc own f g (M.pure true) e ρ = .ok (eL G (xs.map φ), .tt) ρ9 := by
  have := lcP (t := M.pure true) (p := fun _ => true) (φ := φ) hf hρ (fun x hx => by
    obtain ⟨ρx, h1, h2, h3⟩ := hb x hx
    exact ⟨ρx, h1, rfl, h2, fun _ => h3⟩) hl h9
  rw [List.filter_eq_self.mpr (fun _ _ => rfl)] at this
  exact this
theorem lcL_st {ctx : σ → Env} {p : α → σ → Bool × σ} {φ : α → σ → β × σ} {S : α → σ → Prop} : ∀ (xs : List α) (acc : List D) (s : σ), slcS p φ S xs s →
    (∀ x s, S x s → ∃ (cx : σ → Env), g (F x) (ctx s) = some (cx s) ∧ t (cx s) = .ok (p x s).1 (cx (p x s).2) ∧ (∀ s', wipeE (cx s') own = ctx s') ∧ ((p x s).1 = true → e (cx (p x s).2) = .ok (G (φ x (p x s).2).1) (cx (φ x (p x s).2).2))) → acc.length + xs.length ≤ 10000 →
    mLcL own g t e (xs.map F) acc (ctx s) = .ok (acc ++ (lcS p φ xs s).1.map G) (ctx (lcS p φ xs s).2)
  | [], acc, s, _, _, _ => by simp [mLcL, M.pure, lcS]
  | x :: xs, acc, s, hs, h, hl => by
    obtain ⟨cx, h1, h2, h3, h4⟩ := h x s hs.1
    rw [List.length_cons] at hl
    have ih := fun acc' s' hs' hl' => lcL_st (p := p) (φ := φ) (S := S) xs acc' s' hs' h hl'
    rw [List.map_cons]
    unfold mLcL
    rw [h1]
    dsimp only
    unfold M.bind mNoR
    rw [h2]
    dsimp only
    unfold lcS
    cases q : (p x s).1 with
    | false =>
      dsimp only [cond_false]
      rw [h3]
      exact ih acc _ (hs.2.2 q) (by omega)
    | true =>
      dsimp only [cond_true]
      rw [h4 q]
      dsimp only
      rw [if_pos (by omega), h3, ih _ _ (hs.2.1 q) (by rw [List.length_append, List.length_singleton]; omega)]
      simp
theorem lcSt {ctx ctx9 : σ → Env} {p : α → σ → Bool × σ} {φ : α → σ → β × σ} {S : α → σ → Prop} {xs : List α} {s : σ} (hf : f ρ = .ok (xs.map F) ρ0) (hρ : wipeE ρ0 own = ctx s) (hs : slcS p φ S xs s)
    (hb : ∀ x s, S x s → ∃ (cx : σ → Env), g (F x) (ctx s) = some (cx s) ∧ t (cx s) = .ok (p x s).1 (cx (p x s).2) ∧ (∀ s', wipeE (cx s') own = ctx s') ∧ ((p x s).1 = true → e (cx (p x s).2) = .ok (G (φ x (p x s).2).1) (cx (φ x (p x s).2).2))) (hl : xs.length ≤ 10000) (h9 : ∀ s, wipeE (ctx s) own = ctx9 s) :
    mLc own f g t e ρ = .ok (eL G (lcS p φ xs s).1, .tt) (ctx9 (lcS p φ xs s).2) := by
  unfold mLc M.bind
  rw [hf]
  dsimp only
  rw [hρ, lcL_st xs [] s hs hb (by simpa using hl)]
  dsimp only
  rw [h9]; rfl
end
section
variable {β τ : Type} {J : Rs Fl → β → Prop} {ρ ρ1 ρ2 : Env} {f g k : M Fl} {fo : M (D × Ob)} {fd fk fe : M D} {fs : M (List D)} {t : M Bool} {c : Bool} {x y : β} {d d2 : D} {i j : Nat} {o : Ob}
theorem sq_eq (h1 : f ρ = .ok .nx ρ1) : mSeq f g ρ = g ρ1 := by unfold mSeq M.bind; rw [h1]
theorem sq (h1 : f ρ = .ok .nx ρ1) (h2 : J (g ρ1) x) : J (mSeq f g ρ) x := by rw [sq_eq h1]; exact h2
theorem sqB {ctx : τ → Env} {v : τ} {b : τ → β} {S : τ → Prop} (h1 : f ρ = .ok .nx (ctx v)) (hs : bd v S) (h2 : ∀ v, S v → J (g (ctx v)) (b v)) : J (mSeq f g ρ) (bd v b) := sq h1 (h2 v hs)
theorem mIf_t {α : Type} {f g : M α} (h : t ρ = .ok true ρ1) : mIf t f g ρ = f ρ1 := by unfold mIf M.bind; rw [h]
theorem mIf_f {α : Type} {f g : M α} (h : t ρ = .ok false ρ1) : mIf t f g ρ = g ρ1 := by unfold mIf M.bind; rw [h]
theorem sqIf (h : t ρ = .ok c ρ1) (h1 : c = true → J (mSeq f k ρ1) x) (h2 : c = false → J (mSeq g k ρ1) y) : J (mSeq (mIf t f g) k ρ) (cond c x y) := by
  cases c with
  | true =>
    have e : mSeq (mIf t f g) k ρ = mSeq f k ρ1 := by unfold mSeq M.bind; rw [mIf_t h]
    rw [e]; exact h1 rfl
  | false =>
    have e : mSeq (mIf t f g) k ρ = mSeq g k ρ1 := by unfold mSeq M.bind; rw [mIf_f h]
    rw [e]; exact h2 rfl
theorem ifJ {ctx : τ → Env} {v w : τ} (h : t ρ = .ok c ρ1) (h1 : c = true → f ρ1 = .ok .nx (ctx v)) (h2 : c = false → g ρ1 = .ok .nx (ctx w)) : mIf t f g ρ = .ok .nx (ctx (cond c v w)) := by
  unfold mIf M.bind; rw [h]
  cases c with
  | true => exact h1 rfl
  | false => exact h2 rfl
theorem sSet (h : fo ρ = .ok (d, .ff) ρ1) (e : ρ1.set i (.fz d) = ρ2) : mSet i fo ρ = .ok .nx ρ2 := by unfold mSet M.bind; rw [h]; subst e; rfl
theorem sSetO (h : fo ρ = .ok (d, .tt) ρ1) (e : ρ1.set i (.ow d) = ρ2) : mSet i fo ρ = .ok .nx ρ2 := by unfold mSet M.bind; rw [h]; subst e; rfl
theorem sAsg {gg : D → Env → Option Env} (h : fd ρ = .ok d ρ1) (e : gg d ρ1 = some ρ2) : mAsg gg fd ρ = .ok .nx ρ2 := by unfold mAsg M.bind; rw [h]; dsimp only; rw [e]
theorem sDrop (h : fd ρ = .ok d ρ1) : mDrop fd ρ = .ok .nx ρ1 := by unfold mDrop M.bind; rw [h]; rfl
theorem sKill {is : List Nat} (e : wipeE ρ is = ρ2) : mKill is ρ = .ok .nx ρ2 := by unfold mKill; rw [e]
theorem sFrz (h : ρ[i]? = some (.ow d)) (e : ρ.set i (.fz d) = ρ2) : mFrz i ρ = .ok .nx ρ2 := by unfold mFrz; rw [h]; dsimp only; rw [e]
theorem ret_eq (h : fo ρ = .ok (d, o) ρ1) : mRet fo ρ = .ok (.rt d o) ρ1 := by unfold mRet M.bind; rw [h]; rfl
theorem sRet (h : fo ρ = .ok (d, o) ρ1) (h2 : J (.ok (.rt d o) ρ1) x) : J (mRet fo ρ) x := by rw [ret_eq h]; exact h2
theorem sqRet (h : fo ρ = .ok (d, o) ρ1) (h2 : J (.ok (.rt d o) ρ1) x) : J (mSeq (mRet fo) g ρ) x := by
  unfold mSeq M.bind; rw [ret_eq h]; exact h2
variable {α : Type} {F : α → D} {xs : List α} {v : α} {z : Int}
theorem sPutO (h1 : fe ρ = .ok (F v) ρ1) (h2 : fk ρ1 = .ok (.int z) ρ2) (h0 : ρ1[i]? = some (.ow (eL F xs))) (h : ρ2[i]? = some (.ow (eL F xs))) (hb : InB xs.length z) {ρ3 : Env} (e : ρ2.set i (.ow (eL F (setI xs z v))) = ρ3) : mPutAt i fe fk ρ = .ok .nx ρ3 := by
  obtain ⟨a, b⟩ := ixN_of hb
  unfold mPutAt M.bind
  rw [h1]; dsimp only
  unfold chk
  rw [h0]; dsimp only
  rw [h2]; dsimp only
  rw [h]; dsimp only [eL]
  rw [List.length_map, a]; dsimp only
  rw [← e]; unfold setI eL; rw [List.map_set]
theorem sApp (h1 : fe ρ = .ok (F v) ρ1) (h0 : ∃ ys : List α, ρ[i]? = some (.ow (eL F ys))) (h : ρ1[i]? = some (.ow (eL F xs))) (hl : xs.length < 10000) (e : ρ1.set i (.ow (eL F (xs ++ [v]))) = ρ2) : mApp1 i fe ρ = .ok .nx ρ2 := by
  obtain ⟨ys, h0⟩ := h0
  unfold mApp1 M.bind chkL
  dsimp only
  rw [h0]; dsimp only [eL]
  rw [h1]; dsimp only
  unfold mUpd
  rw [h]; dsimp only [eL]
  rw [if_pos (by rw [List.length_map]; exact hl)]; dsimp only
  rw [← e]; unfold eL; rw [List.map_append]; rfl
end
end Dt
namespace Dt
open PySem L2
section
variable {β γ σ : Type}
def JN (ctx : σ → Env) (r : Rs Fl) (s : σ) : Prop := r = .ok .nx (ctx s)
def JR (F : β → D) (o : Ob) (r : Rs Fl) (x : β) : Prop := ∃ ρ', r = .ok (.rt (F x) o) ρ'
def JI (j : Nat) (F : β → D) (G : γ → D) (o : Ob) (r : Rs Fl) (x : β × γ) : Prop := ∃ ρ', r = .ok (.rt (F x.1) o) ρ' ∧ ρ'[j]? = some (.io (G x.2))
def JE (r : Rs Fl) (_ : Unit) : Prop := ∃ ρ', r = .ok .nx ρ'
def JW0 (ctx : σ → Env) (J : Rs Fl → β → Prop) (r : Rs Fl) (w : Fw σ β) : Prop := match w with
  | .nx s => r = .ok .nx (ctx s)
  | .rt v => J r v
structure JW (ctx : σ → Env) (J : Rs Fl → β → Prop) (r : Rs Fl) (w : Fw σ β) : Prop where
  h : JW0 ctx J r w
theorem jw_rt {ctx : σ → Env} {J : Rs Fl → β → Prop} {r : Rs Fl} {v : β} (h : J r v) : JW ctx J r (.rt v) := ⟨h⟩
theorem jw_nx {ctx : σ → Env} {J : Rs Fl → β → Prop} {r : Rs Fl} {s : σ} (h : r = .ok .nx (ctx s)) : JW ctx J r (.nx s) := ⟨h⟩
variable {n j : Nat} {fb : M Fl} {ds : List D} {F : β → D} {G : γ → D} {o : Ob} {ρ : Env}
theorem jr_mk {x : β} {d : D} (e : d = F x) : JR F o (.ok (.rt d o) ρ) x := ⟨ρ, by rw [e]⟩
theorem ji_mk {a : β} {b : γ} {d : D} (e : d = F a) (h : ρ[j]? = some (.io (G b))) : JI j F G o (.ok (.rt d o) ρ) (a, b) := ⟨ρ, by rw [e], h⟩
theorem run0 {x : β} (h : JR F o (fb (initE none n ds)) x) : runF none n fb ds = .ok (F x) o .non := by
  obtain ⟨ρ', h⟩ := h
  unfold runF; rw [h]; rfl
theorem runI {x : β × γ} (h : JI j F G o (fb (initE (some j) n ds)) x) : runF (some j) n fb ds = .ok (F x.1) o (G x.2) := by
  obtain ⟨ρ', h, h2⟩ := h
  unfold runF; rw [h]; dsimp only; unfold fin; dsimp only; rw [h2]
theorem runE {x : Unit} (h : JE (fb (initE none n ds)) x) : runF none n fb ds = .ok (eN x) .ff .non := by
  obtain ⟨ρ', h⟩ := h
  unfold runF; rw [h]; rfl
def IsRt (J : Rs Fl → β → Prop) : Prop := ∀ r v, J r v → ∃ d o ρ', r = .ok (.rt d o) ρ'
theorem isRt_R : IsRt (JR F o) := fun r v ⟨ρ', h⟩ => ⟨_, _, ρ', h⟩
end
section
variable {α β γ σ : Type} {F : α → D} {f : M (List D)} {g : D → Env → Option Env} {b k : M Fl} {ρ : Env} {ctx : σ → Env}
theorem forL_fl {step : σ → α → σ} {S : σ → α → Prop} (hb : ∀ s x, S s x → ∃ ρ1, g (F x) (ctx s) = some ρ1 ∧ JN ctx (b ρ1) (step s x)) : ∀ (xs : List α) (s : σ), sfl step S xs s → mForL g b (xs.map F) (ctx s) = .ok .nx (ctx (xs.foldl step s))
  | [], s, _ => rfl
  | x :: r, s, h => by
    obtain ⟨ρ1, h1, h2⟩ := hb s x h.1
    unfold JN at h2
    rw [List.map_cons]
    unfold mForL
    rw [h1]; dsimp only
    unfold M.bind
    rw [h2]
    exact forL_fl hb r _ h.2
theorem forN {step : σ → α → σ} {S : σ → α → Prop} {xs : List α} {s : σ} (hf : f ρ = .ok (xs.map F) (ctx s)) (hs : sfl step S xs s) (hb : ∀ s x, S s x → ∃ ρ1, g (F x) (ctx s) = some ρ1 ∧ JN ctx (b ρ1) (step s x)) : mFor f g b ρ = .ok .nx (ctx (xs.foldl step s)) := by
  unfold mFor M.bind
  rw [hf]
  exact forL_fl hb xs s hs
theorem forL_fw {J' : Rs Fl → β → Prop} {step : σ → α → Fw σ β} {S : σ → α → Prop} (hi : IsRt J') (hb : ∀ s x, S s x → ∃ ρ1, g (F x) (ctx s) = some ρ1 ∧ JW ctx J' (b ρ1) (step s x)) : ∀ (xs : List α) (s : σ), sflw step S xs s → JW ctx J' (mForL g b (xs.map F) (ctx s)) (flw step xs s)
  | [], s, _ => jw_nx rfl
  | x :: r, s, h => by
    obtain ⟨ρ1, h1, h2⟩ := hb s x h.1
    have h3 := h.2
    rw [List.map_cons]
    unfold mForL flw
    rw [h1]; dsimp only
    unfold M.bind
    cases q : step s x with
    | nx s' =>
      rw [q] at h2 h3
      have h2' : b ρ1 = .ok .nx (ctx s') := h2.h
      rw [h2']
      exact forL_fw hi hb r s' h3
    | rt v =>
      rw [q] at h2
      have h2' : J' (b ρ1) v := h2.h
      obtain ⟨d, o, ρ', e⟩ := hi _ _ h2'
      rw [e] at h2' ⊢
      exact jw_rt h2'
theorem forW {J : Rs Fl → γ → Prop} {J' : Rs Fl → β → Prop} {kr : β → γ} {kn : σ → γ} {step : σ → α → Fw σ β} {S : σ → α → Prop} {S2 : σ → Prop} {xs : List α} {s : σ} (hi : IsRt J') (hr : ∀ r v, J' r v → J r (kr v)) (hf : f ρ = .ok (xs.map F) (ctx s)) (hs : sflw step S xs s) (hs2 : sfwc (flw step xs s) S2)
    (hb : ∀ s x, S s x → ∃ ρ1, g (F x) (ctx s) = some ρ1 ∧ JW ctx J' (b ρ1) (step s x)) (hk : ∀ s, S2 s → J (k (ctx s)) (kn s)) : J (mSeq (mFor f g b) k ρ) (fwc (flw step xs s) kr kn) := by
  have h := forL_fw hi hb xs s hs
  have e : mFor f g b ρ = mForL g b (xs.map F) (ctx s) := by unfold mFor M.bind; rw [hf]
  unfold mSeq M.bind
  rw [e]
  cases q : flw step xs s with
  | nx s' =>
    rw [q] at h hs2
    have h' : mForL g b (xs.map F) (ctx s) = .ok .nx (ctx s') := h.h
    rw [h']
    exact hk s' hs2
  | rt v =>
    rw [q] at h
    have h' : J' (mForL g b (xs.map F) (ctx s)) v := h.h
    obtain ⟨d, o, ρ', e2⟩ := hi _ _ h'
    rw [e2] at h' ⊢
    exact hr _ _ h'
end
structure Gd (n : Nat) {α : Type} (F : α → D) : Prop where
  ok : ∀ x, okD n (F x) = true
  pl : ∀ x, plD n (F x) = true
  inj : ∀ x y, F x = F y → x = y
section
variable {n m : Nat} {α β γ δ : Type} {F : α → D} {G : β → D} {H : γ → D} {K : δ → D}
theorem okD_up : ∀ {n m : Nat} {d : D}, n ≤ m → okD n d = true → okD m d = true
  | n, m, .non, _, _ => okD_non
  | n, m, .bl _, _, _ => okD_bl
  | n, m, .int _, _, _ => okD_int
  | n, m, .str x, _, h => by cases n <;> cases m <;> exact h
  | 0, _, .lst _, _, h => by cases h
  | 0, _, .tup _, _, h => by cases h
  | 0, _, .scr _, _, h => by cases h
  | n, m, .dic _ _, _, h => by cases n <;> cases h
  | n, m, .dct _ _, _, h => by cases n <;> cases h
  | n, m, .obj _, _, h => by cases n <;> cases h
  | 0, _, .key _, _, h => by cases h
  | n + 1, m + 1, .key _, _, h => h
  | n + 1, 0, _, hm, _ => by omega
  | n + 1, m + 1, .lst xs, hm, h => by
    rw [okD_lst, List.all_eq_true] at h ⊢
    exact fun x hx => okD_up (by omega) (h x hx)
  | n + 1, m + 1, .tup xs, hm, h => by
    rw [okD_tup, List.all_eq_true] at h ⊢
    exact fun x hx => okD_up (by omega) (h x hx)
  | n + 1, m + 1, .scr _, _, _ => rfl
theorem plD_up : ∀ {n m : Nat} {d : D}, n ≤ m → plD n d = true → plD m d = true
  | n, m, .non, _, _ => plD_non
  | n, m, .bl _, _, h => by cases n <;> cases h
  | n, m, .int _, _, _ => plD_int
  | n, m, .str x, _, h => by cases m <;> rfl
  | 0, _, .lst _, _, h => by cases h
  | 0, _, .tup _, _, h => by cases h
  | n, _, .scr _, _, h => by cases n <;> cases h
  | n, _, .dic _ _, _, h => by cases n <;> cases h
  | n, _, .dct _ _, _, h => by cases n <;> cases h
  | n, _, .obj _, _, h => by cases n <;> cases h
  | n, _, .key _, _, h => by cases n <;> cases h
  | n + 1, 0, _, hm, _ => by omega
  | n + 1, m + 1, .lst xs, hm, h => by
    rw [plD_lst, List.all_eq_true] at h ⊢
    exact fun x hx => plD_up (by omega) (h x hx)
  | n + 1, m + 1, .tup xs, hm, h => by
    rw [plD_tup, List.all_eq_true] at h ⊢
    exact fun x hx => plD_up (by omega) (h x hx)
theorem gI : Gd 0 D.int := ⟨fun _ => rfl, fun _ => rfl, fun x y h => by injection h⟩
theorem gQ : Gd 1 fq := ⟨fun _ => rfl, fun _ => rfl, fun x y h => by
  injection h with h
  injection h with h1 h
  injection h with h2 h
  injection h1 with h1
  injection h2 with h2
  exact Rat.ext h1 (by omega)⟩
theorem map_inj (h : ∀ x y, F x = F y → x = y) : ∀ {xs ys : List α}, xs.map F = ys.map F → xs = ys
  | [], [], _ => rfl
  | [], _ :: _, e => by cases e
  | _ :: _, [], e => by cases e
  | x :: xs, y :: ys, e => by
    injection e with e1 e2
    rw [h x y e1, map_inj h e2]
theorem gL (h : Gd n F) : Gd (n + 1) (eL F) := ⟨fun xs => by
    show (xs.map F).all (okD n) = true
    rw [List.all_map, List.all_eq_true]; exact fun x _ => h.ok x, fun xs => by
    show (xs.map F).all (plD n) = true
    rw [List.all_map, List.all_eq_true]; exact fun x _ => h.pl x, fun x y e => by injection e with e; exact map_inj h.inj e⟩
theorem gT2 (h : Gd n F) (k : Gd n G) : Gd (n + 1) (eT2 F G) := ⟨fun p => by
    show (okD n (F p.1) && (okD n (G p.2) && true)) = true
    rw [h.ok, k.ok]; rfl, fun p => by
    show (plD n (F p.1) && (plD n (G p.2) && true)) = true
    rw [h.pl, k.pl]; rfl, fun x y e => by
    injection e with e
    injection e with e1 e
    injection e with e2 e
    exact Prod.ext (h.inj _ _ e1) (k.inj _ _ e2)⟩
theorem Gd.gd (h : Gd n F) (l : n ≤ 20 := by decide) (x : α) : gdD (F x) := ⟨okD_up l (h.ok x), plD_up l (h.pl x)⟩
theorem o_eq [DecidableEq α] (h : Gd n F) {x y : α} (l : n ≤ 20 := by decide) : dEq (F x) (F y) = some (.bl (decide (x = y))) := by
  by_cases q : x = y
  · subst q; rw [dEq_self (h.gd l x)]; simp
  · rw [dEq_ne (h.gd l x) (h.gd l y) (fun z => q (h.inj x y z))]; simp [q]
theorem o_ne [DecidableEq α] (h : Gd n F) {x y : α} (l : n ≤ 20 := by decide) : dNe (F x) (F y) = some (.bl (!decide (x = y))) := dNe_not (o_eq h l)
structure Gx (n : Nat) {α : Type} (F : α → D) : Prop where
  pl : ∀ x, plD n (F x) = true
  inj : ∀ x y, F x = F y → x = y
theorem Gd.gx (h : Gd n F) : Gx n F := ⟨h.pl, h.inj⟩
theorem Gx.up (h : Gx n F) (l : n ≤ m) : Gx m F := ⟨fun x => plD_up l (h.pl x), h.inj⟩
theorem xSt : Gx 0 D.str := ⟨fun _ => rfl, fun x y h => by injection h⟩
theorem xL (h : Gx n F) : Gx (n + 1) (eL F) := ⟨fun xs => by
    show (xs.map F).all (plD n) = true
    rw [List.all_map, List.all_eq_true]; exact fun x _ => h.pl x, fun x y e => by injection e with e; exact map_inj h.inj e⟩
theorem xT4 (h : Gx n F) (k : Gx n G) (l : Gx n H) (m : Gx n K) : Gx (n + 1) (eT4 F G H K) := ⟨fun p => by
    show (plD n (F p.1) && (plD n (G p.2.1) && (plD n (H p.2.2.1) && (plD n (K p.2.2.2) && true)))) = true
    rw [h.pl, k.pl, l.pl, m.pl]; rfl, fun x y e => by
    injection e with e
    injection e with e1 e
    injection e with e2 e
    injection e with e3 e
    injection e with e4 e
    exact Prod.ext (h.inj _ _ e1) (Prod.ext (k.inj _ _ e2) (Prod.ext (l.inj _ _ e3) (m.inj _ _ e4)))⟩
def OkE (F : α → D) (x : α) : Prop := okD 20 (F x) = true
theorem o_eqx [DecidableEq α] (h : Gx n F) {x y : α} (hx : OkE F x) (hy : OkE F y) (l : n ≤ 20 := by decide) : dEq (F x) (F y) = some (.bl (decide (x = y))) := by
  by_cases q : x = y
  · subst q; rw [dEq_self ⟨hx, plD_up l (h.pl x)⟩]; simp
  · rw [dEq_ne ⟨hx, plD_up l (h.pl x)⟩ ⟨hy, plD_up l (h.pl y)⟩ (fun z => q (h.inj x y z))]; simp [q]
end
section
variable {ρ ρ1 ρ2 : Env} {i : Nat} {α : Type} {F : α → D} {xs : List α} {fk fe f2 : M D} {z : Int} {d y : D} {c : Bool} {T : String}
theorem contR_some {s : Option Slot} {d : D} (h : contR s = some d) : ∃ t, s = some t ∧ ∀ ρ : Env, ∀ i : Nat, ρ[i]? = s → chk i ρ = .ok () ρ := by
  cases s with
  | none => cases h
  | some t =>
    refine ⟨t, rfl, fun ρ i q => ?_⟩
    unfold chk
    rw [q]
    cases t with
    | un => cases h
    | fz _ => rfl
    | ow _ => rfl
    | io _ => rfl
    | dp _ _ => cases h
theorem chk_of {d : D} (h : contR ρ[i]? = some d) : chk i ρ = .ok () ρ := by
  obtain ⟨t, e, k⟩ := contR_some h
  exact k ρ i rfl
theorem pk [Inhabited α] (h0 : contR ρ[i]? = some (eL F xs)) (h1 : fk ρ = .ok (.int z) ρ1) (h2 : contR ρ1[i]? = some (eL F xs)) (hb : InB xs.length z) : mPeek i fk ρ = .ok (F (ix xs z)) ρ1 := by
  unfold mPeek M.bind
  rw [chk_of h0]; dsimp only
  rw [h1]; dsimp only
  rw [h2]; dsimp only [Option.bind]
  rw [o_ixLL hb]
theorem lnL (h0 : contR ρ[i]? = some (eL F xs)) : mLenL i ρ = .ok (.int xs.length) ρ := by
  unfold mLenL M.bind
  rw [chk_of h0]; dsimp only
  rw [h0]; dsimp only [Option.bind]
  rw [o_lenL]
theorem any_in [DecidableEq α] (hf : ∀ x, flatD (F x) = true) (he : ∀ x y, eqF (F x) (F y) = decide (x = y)) (x : α) : ∀ xs : List α, (xs.map F).any (fun y => eqF y (F x)) = decide (x ∈ xs)
  | [] => by simp
  | y :: ys => by
    rw [List.map_cons, List.any_cons, any_in hf he x ys, he y x]
    by_cases q : y = x
    · simp [q]
    · simp [q, Ne.symm q]
theorem o_ninI {x : Int} {ys : List Int} : dIn true (.int x) (eL D.int ys) = some (.bl (!decide (x ∈ ys))) := by
  unfold dIn eL
  dsimp only
  rw [if_pos ⟨rfl, by rw [List.all_map, List.all_eq_true]; exact fun _ _ => rfl⟩, any_in (fun _ => rfl) (fun a b => by show (a == b) = _; rw [Bool.beq_eq_decide_eq])]
  rfl
theorem o_inSV {x : Str} {ys : List Str} : dIn false (.str x) (eV D.str ys) = some (.bl (decide (x ∈ ys))) := by
  unfold dIn eV
  dsimp only
  rw [if_pos ⟨rfl, by rw [List.all_map, List.all_eq_true]; exact fun _ _ => rfl⟩, any_in (fun _ => rfl) (fun a b => by show (a == b) = _; rw [Bool.beq_eq_decide_eq])]
  rfl
theorem o_reprF {d : D} (h : shows d = true) (k : (∃ ds, d = .tup ds) ∨ ∃ ds, d = .lst ds) : dRepr [d] = some (.str (rp d)) := by
  rcases k with ⟨ds, rfl⟩ | ⟨ds, rfl⟩
  · exact if_pos h
  · exact if_pos h
theorem o_int {k : Bool} : dInt [.bl k] = some (.int (b2i k)) := rfl
theorem o_intI {k : Int} : dInt [.int k] = some (.int k) := rfl
theorem mkq_enc {p : Int × Int} (h : IsQ p) : eT2 D.int D.int p = fq (mkq p) := by
  obtain ⟨a, b⟩ := p
  obtain ⟨h1, h2⟩ := h
  dsimp only at h1 h2
  unfold fq mkq eT2
  dsimp only
  rw [Rat.num_divInt, Rat.den_divInt, if_neg (by omega), Int.gcd, Nat.gcd_comm, h2, Int.sign_eq_one_of_pos h1]
  simp
  omega
theorem bdh {P Q : Prop} (h : P) (k : P → Q) : Q := k h
theorem sAss {β : Type} {J : Rs Fl → β → Prop} {a b k : M Fl} {x : β} (h : J (mSeq a (mSeq b k) ρ) x) : J (mSeq (mSeq a b) k ρ) x := by
  have e : mSeq (mSeq a b) k ρ = mSeq a (mSeq b k) ρ := by
    unfold mSeq M.bind
    cases a ρ with
    | ok fl ρ' => cases fl <;> rfl
    | rz c ρ' => rfl
    | fail => rfl
  rw [e]; exact h
theorem jnE {σ : Type} {ctx : σ → Env} {r : Rs Fl} {s : σ} (h : JN ctx r s) : r = .ok .nx (ctx s) := h
end
end Dt
namespace Dt
open PySem PySem.Spec PyProof.Rows L2
section
variable {K : PySem.W.Frag} {B H : Hp}
end
section
variable {X : Cx} {W : WX} {e a b kx : Expr} {pos : Pos} {i : Nat} {x : Str} {px : Pos} {K : PySem.W.Frag}
end
section
variable {α : Type} {F : α → D} {l : List (Int × α)} {z : Int} {v : α} {ρ ρ1 ρ2 ρ3 : Env} {i : Nat} {fe fk : M D} {fs : M (List D)}
theorem chk_fz {d : D} (h : ρ[i]? = some (.fz d)) : chk i ρ = .ok () ρ := by unfold chk; rw [h]
end
end Dt
namespace Dt
open PySem PySem.Spec PyProof.Rows L2
section
variable {X : Cx} {W : WX} {e o kx : Expr} {es : List Expr} {pos : Pos} {i : Nat} {x : Str} {px : Pos} {K : PySem.W.Frag}
def mRetIo (i : Nat) : M (D × Ob) := fun ρ => match ρ[i]? with
  | some (.io d) => .ok (d, .al) ρ
  | _ => .fail
def gSub (i : Nat) (fk : M D) (d : D) (ρ : Env) : Option Env := match chk i ρ with
  | .ok _ _ => match fk ρ with
    | .ok (.int z) ρ' => match ρ'[i]? with
      | some (.ow (.lst ds)) => (ixN ds.length z).map fun j => ρ'.set i (.ow (.lst (ds.set j d)))
      | some (.io (.lst ds)) => (ixN ds.length z).map fun j => ρ'.set i (.io (.lst (ds.set j d)))
      | _ => none
    | _ => none
  | _ => none
end
section
variable {ρ ρ1 ρ2 ρ3 : Env} {i n : Nat} {α : Type} {F : α → D} {xs : List α} {v v2 : α} {z z2 : Int} {fk fk2 : M D} {d : D}
theorem setI_len {xs : List α} {z : Int} {v : α} : (setI xs z v).length = xs.length := by unfold setI; rw [List.length_set]
end
section
variable {K : PySem.W.Frag} {B H : Hp}
end
section
variable {X : Cx} {W : WX} {e o kx : Expr} {pos : Pos} {i : Nat}
end
end Dt
namespace Dt
open PySem PySem.Spec PyProof.Rows L2
section
variable {ρ ρ0 ρ1 ρ2 ρ3 ρ4 ρ9 : Env} {i : Nat} {α β : Type} {F : α → D} {G : β → D} {xs : List (List α)} {v : α} {z z1 z2 : Int} {fk fk1 fk2 fe : M D} {m : Mk}
end
section
variable {α β : Type} {F : α → D} {G : β → D} {f : M (List D)} {g : D → Env → Option Env} {t : M Bool} {e : M (D × Ob)} {own : List Nat} {ρ ρ0 ρ1 ρ9 : Env} {m : Mk} {o : Ob}
end
abbrev NE := Rat ⊕ Int
instance : Inhabited NE := ⟨.inr 0⟩
end Dt
namespace Dt
open PySem PySem.Spec PyProof.Rows L2
def fstI : List Int → Int → Nat
  | [], _ => 0
  | k :: r, z => if k = z then 0 else fstI r z + 1
theorem fstI_at : ∀ {ns : List Int} {z : Int}, z ∈ ns → ns[fstI ns z]? = some z ∧ ∀ m k, m < fstI ns z → ns[m]? = some k → k ≠ z
  | [], _, h => by simp at h
  | k :: r, z, h => by
    unfold fstI
    by_cases e : k = z
    · subst e; rw [if_pos rfl]; exact ⟨rfl, fun m k' hm => absurd hm (Nat.not_lt_zero _)⟩
    · rw [if_neg e]
      obtain ⟨h1, h2⟩ := fstI_at (ns := r) (z := z) ((List.mem_cons.mp h).resolve_left (Ne.symm e))
      refine ⟨by simpa using h1, fun m k' hm hk => ?_⟩
      cases m with
      | zero => simp at hk; rw [← hk]; exact e
      | succ m => exact h2 m k' (by omega) (by simpa using hk)
def idxD (d k : D) : Option D := match d, k with
  | .lst ds, .int z => (asInts ds).bind fun ns => if z ∈ ns then some (.int (fstI ns z)) else none
  | _, _ => none
def isLst : Option D → Bool
  | some (.lst _) => true
  | _ => false
def mIndexL (i : Nat) (fk : M D) : M D := M.bind (chk i) fun _ => M.bind (fun ρ => if isLst (contR ρ[i]?) = true then .ok () ρ else .fail) fun _ => M.bind fk fun k ρ => match (contR ρ[i]?).bind fun d => idxD d k with
  | some z => .ok z ρ
  | none => .fail
section
variable {X : Cx} {W : WX} {e : Expr} {pos : Pos} {i : Nat} {x : Str} {px : Pos}
theorem ev_indexL {apos cpos : Pos} {fk : M D} (hk : EV X W e fk) (hN : X.N[i]? = some x := by rfl) (hv : Vis X.env.scope x := by first | exact Or.inl rfl | exact Or.inr (Or.inl rfl) | exact Or.inr (Or.inr rfl)) (hd : (x == ("__debug__" : Str)) = false := by decide)
    (hcd : (x == ("__classdict__" : Str)) = false := by decide) (hbase : attributeBase (.Name x px) "index" X.env (eval (.Name x px) X.env) = eval (.Name x px) X.env := by rfl)
    (hfew : ((backTo cpos (starEach (e :: []) X.env)).all (fun x => !x.1) && (backToKw cpos (keywordEach [] X.env)).all (fun x => x.1.isSome)
      && decide ((e :: []).length + ([] : List Keyword).length + (if ([] : List Keyword).isEmpty then 0 else 1) < 30)) = true := by rfl)
    (hline : (apos.endLine == cpos.line) = true := by rfl) (hs : starEach (e :: []) X.env = (false, eval e X.env) :: starEach [] X.env := by rfl) : EV X W (.Call (.Attribute (.Name x px) "index" apos) [e] [] cpos) (mIndexL i fk) := by
  intro F ρ σ B H Q L P
  refine PE.we (pe_bm PySem.F.plainAttrs_list PySem.F.slot_list_index PySem.F.type_list_index mt_index (pe_var hN hv hd hcd) (pa_cons pe_we pa_nil hs) hbase hfew hline hs rfl) ?_
  have P0 : Post X W F σ B ((M.bind (chk i) fun _ => M.bind (fun ρ => if isLst (contR ρ[i]?) = true then .ok () ρ else .fail) fun _ => M.bind fk fun k ρ => match (contR ρ[i]?).bind fun d => idxD d k with
    | some z => .ok z ρ
    | none => Rs.fail) ρ) (fun d _ B' H' => ∀ v, Fz X.K B' v d → Q v H') := P
  have hne : chk i ρ ≠ .fail := fun z => by unfold M.bind at P0; simp only [z] at P0; exact P0.elim
  obtain ⟨hck, vo, ev⟩ := L.chk (α := Unit) hne
  unfold M.bind at P0
  simp only [hck] at P0
  by_cases hil : isLst (contR ρ[i]?) = true
  · rw [if_pos hil] at P0
    have hc : ∃ ds, contR ρ[i]? = some (.lst ds) := by
      cases q : contR ρ[i]? with
      | none => rw [q] at hil; cases hil
      | some d => cases d with
        | lst ds => exact ⟨ds, rfl⟩
        | _ => rw [q] at hil; cases hil
    obtain ⟨ds0, hc⟩ := hc
    obtain ⟨_, _, _, _, hl0⟩ := L.cont hc ev
    obtain ⟨a, vs0, rfl, h0, _⟩ := hl0 _ rfl
    refine ⟨_, ev, .inl ⟨rfl, vs0, .inl (.inl h0)⟩, ?_⟩
    refine hk F ρ σ B H _ L ((Post.bind P0).imp fun k ρ2 B2 H2 e2 L2 P3 u fu => ?_)
    cases q : contR ρ2[i]? with
    | none => simp only [q, Option.bind_none] at P3; exact P3.elim
    | some d =>
      simp only [q, Option.bind_some] at P3
      cases q2 : idxD d k with
      | none => simp only [q2] at P3; exact P3.elim
      | some z =>
        simp only [q2] at P3
        unfold idxD at q2
        split at q2
        · rename_i ds y
          obtain ⟨B3, _, _, _, hl⟩ := L2.cont q ev
          obtain ⟨a', vs, ea, h1, fs⟩ := hl _ rfl
          injection ea with ea; subst ea
          cases q3 : asInts ds with
          | none => rw [q3] at q2; cases q2
          | some ns =>
            rw [q3] at q2
            have q2' : (if y ∈ ns then some (D.int (fstI ns y)) else none) = some z := q2
            split at q2'
            · rename_i hm
              injection q2' with q2'; subst q2'
              cases fu
              have hds := asInts_eq q3
              subst hds
              have hvs := fs.ints
              subst hvs
              obtain ⟨h2, h3⟩ := fstI_at hm
              refine ⟨a, _, .int y, fstI ns y, .int y, rfl, rfl, .inl (.inl h1), rfl, by simp [List.all_map, Function.comp_def, flatV], by rw [List.getElem?_map, h2]; rfl, by simp [eqV], fun m z' hm' hz' => ?_, P3 B2 H2 (Ex.refl _) L2 _ (.int _)⟩
              rw [List.getElem?_map] at hz'
              cases q4 : ns[m]? with
              | none => rw [q4] at hz'; cases hz'
              | some n =>
                rw [q4] at hz'; injection hz' with hz'; subst hz'
                have := h3 m n hm' q4
                simp [eqV, this]
            · cases q2'
        · cases q2
  · rw [if_neg hil] at P0; exact P0.elim
end
theorem t_idx {ρ ρ1 : Env} {i : Nat} {fk : M D} {ns : List Int} {z : Int} (hc : chk i ρ = .ok () ρ) (h0 : isLst (contR ρ[i]?) = true) (h2 : fk ρ = .ok (.int z) ρ1) (hs : contR ρ1[i]? = some (eL D.int ns)) (h : z ∈ ns) : mIndexL i fk ρ = .ok (.int (fstI ns z)) ρ1 := by
  unfold mIndexL M.bind
  rw [hc]; dsimp only; rw [if_pos h0]; dsimp only; rw [h2]; dsimp only; rw [hs]
  unfold eL idxD
  dsimp only [Option.bind_some]
  rw [asInts_map]; dsimp only [Option.bind_some]; rw [if_pos h]
end Dt
namespace Dt
open PySem PySem.Spec PyProof.Rows L2
end Dt
namespace Dt
open PySem PySem.Spec PyProof.Rows L2
instance iLine : DecidableEq Line := inferInstance
instance iStand : DecidableEq Stand := inferInstance
instance iComD : DecidableEq Com := inferInstance
instance iSCD : DecidableEq (List Stand × Com) := @instDecidableEqProd _ _ inferInstance inferInstance
instance iNetD : DecidableEq Net := @instDecidableEqProd (List Line) (List Stand × Com) inferInstance iSCD
end Dt
namespace Dt
open PySem PySem.Spec PyProof.Rows L2
def relab (sc sc' : Scope) : Scope := relabel sc { scope := sc', locals := 0, globals := 0, cells := [] }
theorem relabel_eq {sc : Scope} {env : PySem.Env} : relabel sc env = relab sc env.scope := rfl
end Dt
namespace Dt
open PySem PySem.Spec PyProof.Rows L2
section
variable {K : PySem.W.Frag} {F : Fr} {ρ : Env} {σ : St} {B H : Hp}
end
end Dt
namespace Dt
open PySem PySem.Spec PyProof.Rows L2
mutual

def D.noL : D → Bool
  | .tup xs => D.noLs xs
  | .lst _ => false
  | .dic _ _ => false
  | .dct _ _ => false
  | .scr _ => false
  | .non | .bl _ | .int _ | .str _ | .obj _ | .key _ => true
def D.noLs : List D → Bool
  | [] => true
  | x :: xs => D.noL x && D.noLs xs
end
def HO.isC : HO → Prop
  | .lst _ => True
  | .dK _ => True
  | .dT _ => True
  | _ => False
section
variable {K : PySem.W.Frag} {B : Hp} {a : Addr} {o : HO}
end
section
variable {X : Cx} {W : WX} {e : Expr} {i : Nat}
end
end Dt
namespace Dt
end Dt
namespace Dt
open PySem PySem.Spec PyProof.Rows L2
structure Cl where
  nm : Str
  takes : List Str
  g : M Fl
def ExM (K : PySem.W.Frag) (mg : Str → Option Value) (c h : Str) (b : Bool) : Prop := PySem.W.exmOne K ((mg c).getD .none) ((mg h).getD .none) = some b
def ExA (K : PySem.W.Frag) (mg : Str → Option Value) (ks : List Str) (k : Cl) : Prop := ∀ c ∈ ks, ExM K mg c k.nm (decide (c ∈ k.takes))
theorem exa_nil {K : PySem.W.Frag} {mg : Str → Option Value} {k : Cl} : ExA K mg [] k := fun c h => absurd h List.not_mem_nil
theorem exa_cons {K : PySem.W.Frag} {mg : Str → Option Value} {k : Cl} {c : Str} {ks : List Str} {b : Bool} (e : ExM K mg c k.nm b) (r : ExA K mg ks k) (hb : decide (c ∈ k.takes) = b := by decide) : ExA K mg (c :: ks) k := fun x hx => by
  rcases List.mem_cons.mp hx with rfl | hx
  · rw [hb]; exact e
  · exact r x hx
section
variable {X : Cx} {W : WX}
end
end Dt
namespace Dt
open PySem PySem.Spec PyProof.Rows L2
section
variable {α β : Type} {f : M α} {g : α → M β} {ρ ρ' ρ1 : Env} {c : Str}
theorem bz (h : f ρ = .rz c ρ') : M.bind f g ρ = .rz c ρ' := by unfold M.bind; rw [h]
theorem cZ {n : Nat} {fx : M (List AV)} {avs : List AV} {fn : List D → Rf} {ds : List D} (h : fx ρ = .ok avs ρ1) (hl : avs.length = n) (hs : setup ρ1 none avs = some ds) (hf : fn ds = .rz c) : mCallN n none fn fx ρ = .rz c ρ1 := by
  unfold mCallN mCallF M.bind
  rw [h]; dsimp only
  rw [if_pos hl]
  unfold M.opt; dsimp only
  rw [hs]; dsimp only
  rw [hf]
  have e : ∀ l : List AV, slotOf none l = none := fun l => by cases l <;> rfl
  show Rs.rz c (match slotOf none avs with | none => ρ1 | some i => List.set ρ1 i Slot.un) = _
  rw [e]
def JZ (c : Str) (r : Rs Fl) (_ : Unit) : Prop := ∃ ρ', r = .rz c ρ'
theorem runZ {n : Nat} {fb : M Fl} {ds : List D} {x : Unit} (h : JZ c (fb (initE none n ds)) x) : runF none n fb ds = .rz c := by
  obtain ⟨ρ', h⟩ := h
  unfold runF; rw [h]
end
def rzOf : Rf → Str
  | .rz c => c
  | _ => default
end Dt
namespace Dt
open PySem PySem.Spec PyProof.Rows L2
def rIsET (K : PySem.W.Frag) (D a : Addr) : List V → Hp → VK → Prop := fun xs H Q => ∃ (tp : Addr) (cs : List V) (us : List Value) (b : Bool), xs = [.ref a, .ref tp] ∧ H tp = some (.tup cs) ∧ Paired ClsV cs us ∧ PySem.W.kitAny K (.ref D) us = some b ∧ Q (.bl b) H
theorem call_isET {X : Cx} {a D : Addr} {oe : Obj} {pn : List (Addr × Obj)} (C : L2.ExcC X.K D) (hz : Zc (.ref D) none oe) (hf : ∃ vs, oe.data = .fields vs) : CallR (X.suite a ((a, oe) :: pn)) (.builtin "isinstance") (rIsET X.K D a) := by
  intro pins s σ H xs us Q I r h
  obtain ⟨tp, cs, ws, b, rfl, hT, k, e, q⟩ := h
  obtain ⟨u1, u2, rfl, r1, r2⟩ := vals2 r
  cases (show u1 = Value.ref a from r1)
  cases (show u2 = Value.ref tp from r2)
  obtain ⟨hget, _⟩ := I.pin (a, oe) (List.mem_append.mpr (.inl List.mem_cons_self))
  obtain ⟨vs, hv⟩ := hf
  have J : PySem.W.InstAt s.heap a oe D none := by
    obtain ⟨oc, od, oda, osl⟩ := oe
    obtain ⟨h1, h2⟩ := hz
    dsimp only at h1 h2 hv
    subst h1 h2 hv
    exact ⟨hget, rfl, rfl, trivial⟩
  obtain ⟨_, its, rv, o, h1, h2, n, h3⟩ := (show ObjOk X.prog X.w H s.heap tp (.tup cs) from I.hok tp _ hT)
  have e3 := ClsV.all k rv
  subst e3
  obtain ⟨oc, od, dt, sl⟩ := o
  simp only at h2 h3
  subst h2 h3
  exact PySem.W.kia_tup (PySem.W.handS_kitx_exc C.hg C.hk C.hs C.hd C.ha C.hn C.ht C.hm) I.kIn J h1 e (fun z => nomatch z) fun tk => ⟨.bl b, H, I.kept (t' := tk) fun _ _ z => z, rfl, q⟩
def XeC (K : PySem.W.Frag) (mg : Str → Option Value) (c : Str) : Prop := ∃ D, mg c = some (.ref D) ∧ L2.ExcC K D
def Hld (X : Cx) (a : Addr) (c : Str) : Prop := ∃ D, X.mg c = some (.ref D) ∧ CallR X (.builtin "isinstance") (rIsE X.K D a) ∧ CallR X (.builtin "isinstance") (rIsET X.K D a)
theorem hld_of {X : Cx} {a : Addr} {oe : Obj} {pn : List (Addr × Obj)} {c : Str} (h : XeC X.K X.mg c) (hz : Zc (cv X c) none oe) (hf : ∃ vs, oe.data = .fields vs) : Hld (X.suite a ((a, oe) :: pn)) a c := by
  obtain ⟨D, e, C⟩ := h
  have e2 : cv X c = .ref D := by unfold cv; rw [e]; rfl
  rw [e2] at hz
  exact ⟨D, e, call_isE C hz hf, call_isET C hz hf⟩
def NmC (mg : Str → Option Value) (T : Str) (u : Value) : Prop := (∃ E, u = .ref E ∧ mg T = some (.ref E)) ∨ (∃ Tn, u = .type Tn ∧ mg T = none ∧ bootBuiltins T = some (.type Tn))
def IsM (K : PySem.W.Frag) (mg : Str → Option Value) (c T : Str) (b : Bool) : Prop := ∃ u, NmC mg T u ∧ PySem.W.kitOne K ((mg c).getD .none) u = some b
theorem isM_of {K : PySem.W.Frag} {mg : Str → Option Value} {c T : Str} {b : Bool} (x : ExC K mg T) (m : ExM K mg c T b) (r : ExM K mg c c true) : IsM K mg c T b := by
  obtain ⟨E, gE, _⟩ := x
  refine ⟨.ref E, .inl ⟨E, rfl, gE⟩, ?_⟩
  unfold ExM at m r
  rw [gE] at m
  have e0 : ∀ {x y : Value} {b : Bool}, PySem.W.exmOne K x y = some b → PySem.W.kitCls K x y = some b := fun {x y b} h => by
    unfold PySem.W.exmOne at h
    split at h
    · exact h
    · cases h
  unfold PySem.W.kitOne
  by_cases q : ((mg c).getD .none == Value.ref E) = true
  · rw [if_pos q]
    have e := beq_iff_eq.mp q
    rw [e] at m r
    have := e0 r
    have := e0 m
    simp_all [Option.getD]
  · rw [if_neg q]; exact e0 m
def IsA (K : PySem.W.Frag) (mg : Str → Option Value) (ks : List Str) (T : Str) (tk : List Str) : Prop := ∀ c ∈ ks, IsM K mg c T (decide (c ∈ tk))
theorem isa_nil {K : PySem.W.Frag} {mg : Str → Option Value} {T : Str} {tk : List Str} : IsA K mg [] T tk := fun c h => absurd h List.not_mem_nil
theorem isa_cons {K : PySem.W.Frag} {mg : Str → Option Value} {T : Str} {tk : List Str} {c : Str} {ks : List Str} {b : Bool} (e : IsM K mg c T b) (r : IsA K mg ks T tk) (hb : decide (c ∈ tk) = b := by decide) : IsA K mg (c :: ks) T tk := fun x hx => by
  rcases List.mem_cons.mp hx with rfl | hx
  · rw [hb]; exact e
  · exact r x hx
section
variable {X : Cx} {W : WX} {i : Nat} {a : Addr} {e e1 e2 : Expr} {pos : Pos} {c : Str} {ks : List Str}
def EVe (X : Cx) (W : WX) (i : Nat) (a : Addr) (e : Expr) (f : M D) : Prop := ∀ (F : Fr) (ρ : Env) (σ : St) (B H : Hp) (Q : VK), σ[i]? = some (some (.ref a)) → Lv X.K F ρ σ B H →
  Post X W F σ B (f ρ) (fun d _ B' H' => ∀ v, Fz X.K B' v d → Q v H') → we X e σ H Q
theorem eve_of {f : M D} (h : EV X W e f) : EVe X W i a e f := fun F ρ σ B H Q _ L P => h F ρ σ B H Q L P
def mIsE (c : Str) (tk : List Str) : M D := M.pure (.bl (decide (c ∈ tk)))
theorem pe_nmC {T : Str} {u : Value} {p2 : Pos} (h : NmC X.mg T u) (hgT : Gl X T) (hn : T ≠ "__name__") (hd : (T == ("__debug__" : Str)) = false) : ∃ v, ClsV v u ∧ PE X (.Name T p2) (tC v) := by
  rcases h with ⟨E, rfl, g⟩ | ⟨Tn, rfl, n, b⟩
  · exact ⟨.ref E, .own E, pe_glob hgT g rfl hd⟩
  · exact ⟨.ty Tn, .ty Tn, pe_bltn hgT n b rfl hn hd⟩
theorem eve_is {x T : Str} {tk : List Str} {px p2 p : Pos} (hH : Hld X a c) (hm : X.mg "isinstance" = none) (A : IsA X.K X.mg ks T tk) (hc : c ∈ ks) (hi : X.N[i]? = some x := by rfl) (hv : Vis X.env.scope x := by first | exact Or.inl rfl | exact Or.inr (Or.inl rfl) | exact Or.inr (Or.inr rfl)) (hdx : (x == ("__debug__" : Str)) = false := by decide)
    (hcd : (x == ("__classdict__" : Str)) = false := by decide) (hg : Gl X "isinstance" := by rfl) (hgT : Gl X T := by rfl) (hn : T ≠ "__name__" := by decide) (hd : (T == ("__debug__" : Str)) = false := by decide)
    (he : starEach (.Name x px :: [.Name T p2]) X.env = (false, eval (.Name x px) X.env) :: starEach [.Name T p2] X.env := by rfl) (he2 : starEach (.Name T p2 :: []) X.env = (false, eval (.Name T p2) X.env) :: starEach [] X.env := by rfl) (hpl : (backTo pos (starEach [.Name T p2] X.env)).any (·.1) = false := by rfl) :
    EVe X W i a (.Call (.Name "isinstance" p) [.Name x px, .Name T p2] [] pos) (mIsE c tk) := by
  intro F ρ σ B H Q hs L P
  obtain ⟨D, gD, c1, _⟩ := hH
  obtain ⟨u, nu, ku⟩ := A c hc
  obtain ⟨v, cl, pT⟩ := pe_nmC (p2 := p2) nu hgT hn hd
  refine PE.we (pe_callB c1 hg hm (by decide +kernel) (pa_cons (pe_var hi hv hdx hcd) (pa_cons pT pa_nil he2) he) (by decide) (by decide) he hpl) ?_
  rw [gD] at ku
  refine ⟨.ref a, hs, v, u, _, rfl, fun w r => cl.eq r, ku, ?_⟩
  exact P B H (Ex.refl _) L _ (.bl _)
theorem eve_one {op : BoolOp} {f : M D} (h : EVe X W i a e f) : EVe X W i a (.BoolOp op [e] pos) f := fun F ρ σ B H Q hs L P => PE.we (pe_one pe_we) (h F ρ σ B H Q hs L P)
theorem eve_and {rest : List Expr} {f g : M D} (ha : EVe X W i a e1 f) (hb : EVe X W i a (.BoolOp .And (e2 :: rest) pos) g) : EVe X W i a (.BoolOp .And (e1 :: e2 :: rest) pos) (mAndV f g) := by
  intro F ρ σ B H Q hs L P
  refine PE.we (pe_and pe_we pe_we) ?_
  refine ha F ρ σ B H _ hs L ((Post.bind P).imp fun d ρ1 B1 H1 e1 L1 P1 v fv => ?_)
  split at P1
  · cases fv
    exact ⟨true, rfl, by rw [if_pos rfl]; exact hb F ρ1 σ B1 H1 Q hs L1 P1⟩
  · cases fv
    exact ⟨false, rfl, by rw [if_neg Bool.false_ne_true]; exact P1 B1 H1 (Ex.refl _) L1 _ (.bl false)⟩
  · exact P1.elim
def PostE (X : Cx) (W : WX) (F : Fr) (B : Hp) (i : Nat) (a : Addr) (r : Rs Fl) (N : Ends) : Prop :=
  match r with
  | .ok .nx ρ' => ∀ σ' B' H', Ex B B' → σ'[i]? = some (some (.ref a)) → Lv X.K F ρ' σ' B' H' → N.nx σ' H'
  | r => PostS X W F B r N
theorem PostE.weak {F : Fr} {B B1 : Hp} {r : Rs Fl} {N : Ends} (h : PostE X W F B i a r N) (e : Ex B B1) : PostE X W F B1 i a r N := by
  cases r with
  | ok fl ρ =>
    cases fl with
    | nx => exact fun σ' B' H' e' q L => h σ' B' H' (e.trans e') q L
    | bk => exact PostS.weak (X := X) (W := W) (N := N) (r := .ok .bk ρ) h e
    | ct => exact PostS.weak (X := X) (W := W) (N := N) (r := .ok .ct ρ) h e
    | rt d o => exact PostS.weak (X := X) (W := W) (N := N) (r := .ok (.rt d o) ρ) h e
  | rz c ρ => exact PostS.weak (X := X) (W := W) (N := N) (r := .rz c ρ) h e
  | fail => exact h
theorem PostE.bind {F : Fr} {B : Hp} {σ : St} {α : Type} {ρ : Env} {f : M α} {g : α → M Fl} {N : Ends} (h : PostE X W F B i a (M.bind f g ρ) N) : Post X W F σ B (f ρ) (fun x ρ1 B1 _ => PostE X W F B1 i a (g x ρ1) N) := by
  unfold M.bind at h
  cases q : f ρ with
  | ok x ρ' => rw [q] at h; exact fun B' H' e L => PostE.weak h e
  | rz c ρ' => rw [q] at h; exact fun B' H' e L => h σ B' H' e L
  | fail => rw [q] at h; exact h
def SVe (X : Cx) (W : WX) (i : Nat) (a : Addr) (st : Stmt) (f : M Fl) : Prop := ∀ (F : Fr) (ρ : Env) (σ : St) (B H : Hp) (N : Ends), σ[i]? = some (some (.ref a)) → Lv X.K F ρ σ B H → PostE X W F B i a (f ρ) N → ws X st N σ H
def SVes (X : Cx) (W : WX) (i : Nat) (a : Addr) (sts : List Stmt) (f : M Fl) : Prop := ∀ (F : Fr) (ρ : Env) (σ : St) (B H : Hp) (N : Ends), σ[i]? = some (some (.ref a)) → Lv X.K F ρ σ B H → PostE X W F B i a (f ρ) N → wss X sts N σ H
theorem sves_one {st : Stmt} {f : M Fl} (h1 : SVe X W i a st f) : SVes X W i a [st] f := fun F ρ σ B H N hs L P => PSs.wss (pss_one ps_ws) (h1 F ρ σ B H N hs L P)
def EOe (X : Cx) (W : WX) (i : Nat) (a : Addr) (e : Expr) (f : M (D × Ob)) : Prop := ∀ (F : Fr) (ρ : Env) (σ : St) (B H : Hp) (Q : VK), σ[i]? = some (some (.ref a)) → Lv X.K F ρ σ B H →
  Post X W F σ B (f ρ) (fun p ρ' B' H' => ∀ v, VO X.K F ρ' σ B' H' v p.1 p.2 → Q v H') → we X e σ H Q
theorem eoe_of {f : M D} (h : EVe X W i a e f) : EOe X W i a e (mOf f) := by
  intro F ρ σ B H Q hs L P
  exact h F ρ σ B H Q hs L ((Post.bind P).imp fun d ρ1 B1 H1 e1 L1 P1 v w => P1 B1 H1 (Ex.refl _) L1 v w)
theorem sve_ret {f : M (D × Ob)} (he : EOe X W i a e f) : SVe X W i a (.Return (some e) pos) (mRet f) := by
  intro F ρ σ B H N hs L P
  refine PS.ws (ps_ret pe_we) ?_
  exact he F ρ σ B H _ hs L ((PostE.bind P).imp fun p ρ1 B1 H1 e1 L1 P1 v w => P1 v σ B1 H1 (Ex.refl _) L1 w)
structure Cle where
  nm : Str
  takes : List Str
  g : Str → M Fl
def unI (i : Nat) : Rs Fl → Rs Fl
  | .ok .nx ρ => .ok .nx (ρ.set i .un)
  | .ok .bk ρ => .ok .bk (ρ.set i .un)
  | .ok .ct ρ => .ok .ct (ρ.set i .un)
  | r => r
def mTryAs (ks : List Str) (i : Nat) (k : Cle) (f : M Fl) : M Fl := fun ρ => match f ρ with
  | .rz c ρ' => if c ∈ ks ∧ Nat.ble (i + 1) ρ'.length = true then (if c ∈ k.takes then unI i (k.g c (ρ'.set i .un)) else .rz c ρ') else .fail
  | .ok a ρ' => .ok a ρ'
  | .fail => .fail
theorem Lv.void {K : PySem.W.Frag} {F : Fr} {ρ : Env} {σ : St} {B H : Hp} (L : Lv K F ρ σ B H) (i : Nat) : Lv K F (ρ.set i .un) (σ.set i none) B H := by
  have sg : ∀ {j : Nat}, j ≠ i → (σ.set i none)[j]? = σ[j]? := fun {j} h => List.getElem?_set_ne (Ne.symm h)
  refine L.few (by rw [List.length_set, List.length_set]; exact L.len) (fun j d e1 => ?_) (fun j s e1 w1 => ?_)
  · rcases get_set e1 with ⟨rfl, z, l⟩ | ⟨n, e1⟩
    · cases z
    · rw [sg n]; exact L.fz j d e1
  · rcases get_set e1 with ⟨rfl, z, l⟩ | ⟨n, e1⟩
    · rw [z] at w1; cases w1
    · exact ⟨e1, sg n⟩
theorem sv_try_as {x n : Str} {body suite : List Stmt} {b₀ : Stmt} {np pos' : Pos} {f : M Fl} {k : Cle} (hs : X.stack = X.env :: X.outer) (hf : X.env.frame = some X.env.locals) (hN : X.N.Nodup) (tk : Takes X W) (hi : X.N[i]? = some n) (hln : X.env.kindOf n = some .local)
    (hc : ExC X.K X.mg k.nm) (hx : x = k.nm) (hg : Gl X x) (hd : (x == ("__debug__" : Str)) = false) (ha : ExA X.K X.mg ks ⟨k.nm, k.takes, mNx⟩) (hxe : ∀ c ∈ ks, XeC X.K X.mg c)
    (hb : ∀ (W2 : WX) (pn : List (Addr × Obj)) (xe : Value → Shared → Prop), Takes (X.tr pn xe) W2 → PassesOwn (model X.prog X.w) X.A X.env xe → SVs (X.tr pn xe) W2 body f)
    (hsu : ∀ (c : Str), c ∈ ks → ∀ (a : Addr) (oe : Obj) (pn : List (Addr × Obj)), Hld (X.suite a ((a, oe) :: pn)) a c → SVes (X.suite a ((a, oe) :: pn)) W i a (b₀ :: suite) (k.g c)) :
    SV X W (.Try body [.ExceptHandler (some (.Name x np)) (some n) (b₀ :: suite) pos'] [] [] pos) (mTryAs ks i k f) := by
  obtain ⟨C, gC, _⟩ := id hc
  subst hx
  intro F ρ σ B H N L P
  refine PS.ws (ps_try_as (ts := fun a cls d N σ H => ∀ (oe : Obj) (pn : List (Addr × Obj)), Zc cls d oe → (∃ vs, oe.data = .fields vs) → wss (X.suite a ((a, oe) :: pn)) (b₀ :: suite) N σ H)
    (tb := fun W2 D σ H => ∀ (pn : List (Addr × Obj)) (xe : Value → Shared → Prop), Takes (X.tr pn xe) W2 → PassesOwn (model X.prog X.w) X.A X.env xe → wss (X.tr pn xe) body D σ H) hs hf hN hi hln ⟨hg, hd, .inl gC⟩ tk
    (fun W2 pn xe t2 p2 => ⟨fun pins s σ H N I h => Wss.run (h pn xe t2 p2) pins s I⟩) (fun a oe cls d pn z v => ⟨fun pins s σ H N I h => Wss.run (h oe pn z v) pins s I⟩)) ?_
  intro pn xe t2 p2
  refine hb _ pn xe t2 p2 F ρ σ B H N L ?_
  unfold mTryAs at P
  cases q : f ρ with
  | ok a ρ' =>
    rw [q] at P
    cases a <;> exact P
  | fail => rw [q] at P; exact P
  | rz c ρ' =>
    rw [q] at P
    intro σ' B' H' e L'
    dsimp only at P
    by_cases hml : c ∈ ks ∧ Nat.ble (i + 1) ρ'.length = true
    · rw [if_pos hml] at P
      have hm := hml.1
      have ea := ha c hm
      unfold ExM at ea
      rw [gC] at ea
      refine ⟨_, ea, fun hb' a _ oe pn z v => ?_, fun hb' => ?_⟩
      · have hm' : c ∈ k.takes := of_decide_eq_true hb'
        rw [if_pos hm'] at P
        have hl := hld_of (X := X) (a := a) (pn := pn) (hxe c hm) z v
        have hlen : i < σ'.length := by
          have := L'.len
          have := Nat.le_of_ble_eq_true hml.2
          omega
        refine hsu c hm a oe pn hl F (ρ'.set i .un) (σ'.set i (some (.ref a))) B' H' _ (List.getElem?_set_self hlen) (L'.store rfl fun d' z => nomatch z) ?_
        cases q3 : k.g c (ρ'.set i .un) with
        | ok fl ρ3 =>
          rw [q3] at P
          cases fl with
          | nx => exact fun σ3 B3 H3 e3 _ L3 => P (σ3.set i none) B3 H3 (e.trans e3) (L3.void i)
          | bk => exact fun σ3 B3 H3 e3 L3 => P (σ3.set i none) B3 H3 (e.trans e3) (L3.void i)
          | ct => exact fun σ3 B3 H3 e3 L3 => P (σ3.set i none) B3 H3 (e.trans e3) (L3.void i)
          | rt d o => exact fun v σ3 B3 H3 e3 L3 w3 => P v σ3 B3 H3 (e.trans e3) L3 w3
        | rz c2 ρ3 => rw [q3] at P; exact fun σ3 B3 H3 e3 L3 => P σ3 B3 H3 (e.trans e3) L3
        | fail => rw [q3] at P; exact P
      · have hm' : c ∉ k.takes := of_decide_eq_false hb'
        rw [if_neg hm'] at P
        exact P σ' B' H' e L'
    · rw [if_neg hml] at P; exact P.elim
end
theorem sqTryAs {β : Type} {J : Rs Fl → β → Prop} {ks : List Str} {i : Nat} {nm : Str} {tk : List Str} {g : Str → M Fl} {f k : M Fl} {ρ ρ1 : Env} {c : Str} {x : β} (h : f ρ = .rz c ρ1) (hm : c ∈ ks) (hl : Nat.ble (i + 1) ρ1.length = true) (ht : c ∈ tk) (h2 : J (mSeq (fun ρ => unI i (g c ρ)) k (ρ1.set i .un)) x) : J (mSeq (mTryAs ks i ⟨nm, tk, g⟩ f) k ρ) x := by
  have e : mSeq (mTryAs ks i ⟨nm, tk, g⟩ f) k ρ = mSeq (fun ρ => unI i (g c ρ)) k (ρ1.set i .un) := by
    unfold mSeq M.bind mTryAs
    rw [h]; dsimp only; rw [if_pos ⟨hm, hl⟩, if_pos ht]
  rw [e]; exact h2
theorem sqUnI {β : Type} {J : Rs Fl → β → Prop} {i : Nat} {g k : M Fl} {ρ ρ' : Env} {d : D} {o : Ob} {x : β} (h : g ρ = .ok (.rt d o) ρ') (h2 : J (.ok (.rt d o) ρ') x) : J (mSeq (fun ρ => unI i (g ρ)) k ρ) x := by
  have e : mSeq (fun ρ => unI i (g ρ)) k ρ = .ok (.rt d o) ρ' := by
    unfold mSeq M.bind
    dsimp only
    rw [h]; rfl
  rw [e]; exact h2
end Dt
namespace Dt.Hk
open PySem PySem.Spec PyProof.Rows L2 Dt
open PySem.W (nsIn fnOf codeIn keepIn)
structure Qs where
  fns : List (Str × Str × Stmt)
  frees : List Str
  excs : List Str
  xcs : List Str
  isv : List (Str × String)
  exm : List (Str × Str × Bool)
  cints : List (Str × Int)
  cstrs : List (Str × Str)
  ctups : List (Str × List (Int ⊕ Str))
def eqB (a b : Option Bool) : Bool := match a, b with
  | some x, some y => x == y
  | _, _ => false
theorem eqB_ok {a : Option Bool} {b : Bool} (h : eqB a (some b) = true) : a = some b := by
  cases a with
  | none => cases h
  | some x =>
    have e : x = b := eq_of_beq h
    rw [e]
def isBn (o : Option (Option Value)) (x : String) : Bool := match o with
  | some (some (.builtin y)) => y == x
  | _ => false
theorem isBn_ok {o : Option (Option Value)} {x : String} (h : isBn o x = true) : o = some (some (.builtin x)) := by
  cases o with
  | none => cases h
  | some o =>
    cases o with
    | none => cases h
    | some v =>
      cases v with
      | builtin y =>
        have e : y = x := eq_of_beq h
        rw [e]
      | _ => cases h
def isNo (o : Option (Option Value)) : Bool := match o with
  | some none => true
  | _ => false
theorem isNo_ok {o : Option (Option Value)} (h : isNo o = true) : o = some none := by
  cases o with
  | none => cases h
  | some o =>
    cases o with
    | none => rfl
    | some v => cases h
def isTy (o : Option Value) (x : String) : Bool := match o with
  | some (.type y) => y == x
  | _ => false
theorem isTy_ok {o : Option Value} {x : String} (h : isTy o x = true) : o = some (.type x) := by
  cases o with
  | none => cases h
  | some v =>
    cases v with
    | type y =>
      have e : y = x := eq_of_beq h
      rw [e]
    | _ => cases h
def litB : Int ⊕ Str → Value → Bool
  | .inl i, .int j _ => decide (j = i)
  | .inr s, .str t _ => decide (t = s)
  | _, _ => false
def litsB : List (Int ⊕ Str) → List Value → Bool
  | [], [] => true
  | x :: xs, u :: us => litB x u && litsB xs us
  | _, _ => false
def litD : Int ⊕ Str → D
  | .inl i => .int i
  | .inr s => .str s
theorem litsB_ok : ∀ {xs : List (Int ⊕ Str)} {us : List Value}, litsB xs us = true → Flats us (xs.map litD)
  | [], [], _ => .nil
  | [], _ :: _, h => by cases h
  | _ :: _, [], h => by cases h
  | .inl i :: xs, u :: us, h => by
    obtain ⟨h1, h2⟩ := He.ba (show (litB (.inl i) u && litsB xs us) = true from h)
    cases u with
    | int j t =>
      have e : j = i := of_decide_eq_true h1
      rw [← e]
      exact .int (litsB_ok h2)
    | _ => cases h1
  | .inr s :: xs, u :: us, h => by
    obtain ⟨h1, h2⟩ := He.ba (show (litB (.inr s) u && litsB xs us) = true from h)
    cases u with
    | str j t =>
      have e : j = s := of_decide_eq_true h1
      rw [← e]
      exact .str (litsB_ok h2)
    | _ => cases h1
def excB (K : PySem.W.Frag) (x : Str) : Bool := (match nsIn K mainGlobals x with
  | some (some (.ref C)) => PySem.W.excIn K C veTail "ValueError.__new__" && (keepIn K (.ref C) && (eqB (PySem.W.subIn K (.ref C) (.type "BaseException")) (some true) && isTy (PySem.W.typeIn K (.ref C)) "type"))
  | _ => false)
def xcB (K : PySem.W.Frag) (x : Str) : Bool := (match nsIn K mainGlobals x with
  | some (some (.ref C)) => isBn (PySem.W.findIn K (.ref C) "__getattribute__") "BaseException.__getattribute__" && (isNo (PySem.W.findIn K (.ref C) "__getattr__") && (eqB (PySem.W.subIn K (.ref C) (.type "BaseException")) (some true) &&
    (PySem.W.hasDictIn K C && (isBn (PySem.W.findIn K (.ref C) "__class__") "object.__class__" && (isBn (PySem.W.specialIn K (.builtin "object.__class__") "__get__") "getset_descriptor.__get__" &&
    (eqB (PySem.W.takesIn K (.builtin "object.__class__")) (some true) && eqB (PySem.W.mroIn K C (.type "object")) (some true)))))))
  | _ => false)
def isvB (K : PySem.W.Frag) (q : Str × String) : Bool := (match nsIn K mainGlobals q.1 with
  | some (some (.ref C)) => eqB (PySem.W.subIn K (.ref C) (.type q.2)) (some true)
  | _ => false)
def exmB (K : PySem.W.Frag) (q : Str × Str × Bool) : Bool := (match nsIn K mainGlobals q.1 with
  | some (some (.ref C)) => (match nsIn K mainGlobals q.2.1 with
    | some (some (.ref E)) => eqB (PySem.W.exmOne K (.ref C) (.ref E)) (some q.2.2)
    | _ => false)
  | _ => false)
def intB (K : PySem.W.Frag) (q : Str × Int) : Bool := (match nsIn K mainGlobals q.1 with
  | some (some (.int j _)) => decide (j = q.2)
  | _ => false)
def strB (K : PySem.W.Frag) (q : Str × Str) : Bool := (match nsIn K mainGlobals q.1 with
  | some (some (.str j _)) => decide (j = q.2)
  | _ => false)
def tupB (K : PySem.W.Frag) (q : Str × List (Int ⊕ Str)) : Bool := (match nsIn K mainGlobals q.1 with
  | some (some (.ref p)) => (match K.lookup p with
    | some ⟨.type c, _, .seq its _, _⟩ => (c == "tuple") && (Nat.ble its.size 1000 && litsB q.2 its.toList)
    | _ => false)
  | _ => false)
def enc (s : Str) : Nat := s.cps.toList.foldl (fun a c => a * 1114112 + c + 1) 0
def encV : Value → Nat
  | .str s _ => enc s
  | _ => 0
theorem encV_of {v : Value} {x : Str} (h : v.isStr x = true) : encV v = enc x := by
  cases v with
  | str s t =>
    have e : s = x := by
      have h1 : (s == x) = true := h
      exact eq_of_beq h1
    rw [e]; rfl
  | _ => cases h
def tbl (es : List DictEntry) : List (Nat × DictEntry) := es.map fun e => (encV e.key, e)
def tblK {α : Type} : List DictEntry → (List (Nat × DictEntry) → α) → α
  | [], k => k []
  | e :: r, k => HandSHeadRun.frNat (encV e.key) fun n => tblK r fun t => k ((n, e) :: t)
theorem tblK_eq {α : Type} : ∀ (es : List DictEntry) (k : List (Nat × DictEntry) → α), tblK es k = k (tbl es)
  | [], k => rfl
  | e :: r, k => by
    unfold tblK
    rw [HandSHeadRun.frNat_eq, tblK_eq r]
    rfl
def lkT (n : Nat) : List (Nat × DictEntry) → Option DictEntry
  | [] => none
  | (m, e) :: r => match Nat.beq m n with
    | true => some e
    | false => lkT n r
theorem lkT_some {x : Str} {e : DictEntry} (hx : e.key.isStr x = true) : ∀ es : List DictEntry, lkT (enc x) (tbl es) = some e → es.find? (·.key.isStr x) = some e ∧ e ∈ es
  | [], h => by cases h
  | a :: r, h => by
    have h1 : (match Nat.beq (encV a.key) (enc x) with
      | true => some a
      | false => lkT (enc x) (tbl r)) = some e := h
    cases q : Nat.beq (encV a.key) (enc x) with
    | true =>
      rw [q] at h1
      have ea : a = e := Option.some.inj h1
      subst ea
      exact ⟨by rw [List.find?_cons, hx], List.mem_cons_self⟩
    | false =>
      rw [q] at h1
      obtain ⟨h2, h3⟩ := lkT_some hx r h1
      have n : a.key.isStr x = false := by
        cases z : a.key.isStr x with
        | false => rfl
        | true =>
          rw [encV_of z] at q
          have : Nat.beq (enc x) (enc x) = true := Nat.beq_refl _
          rw [this] at q
          cases q
      exact ⟨by rw [List.find?_cons, n]; exact h2, List.mem_cons_of_mem _ h3⟩
theorem lkT_none {x : Str} : ∀ es : List DictEntry, lkT (enc x) (tbl es) = none → es.find? (·.key.isStr x) = none
  | [], _ => rfl
  | a :: r, h => by
    have h1 : (match Nat.beq (encV a.key) (enc x) with
      | true => some a
      | false => lkT (enc x) (tbl r)) = none := h
    cases q : Nat.beq (encV a.key) (enc x) with
    | true => rw [q] at h1; cases h1
    | false =>
      rw [q] at h1
      have n : a.key.isStr x = false := by
        cases z : a.key.isStr x with
        | false => rfl
        | true =>
          rw [encV_of z] at q
          have : Nat.beq (enc x) (enc x) = true := Nat.beq_refl _
          rw [this] at q
          cases q
      rw [List.find?_cons, n]
      exact lkT_none r h1
def glE (g : Addr → Option Obj) : List DictEntry := (match g mainGlobals with
  | some ⟨_, _, .dict us _, _⟩ => us.toList
  | _ => [])
def rfs (g : Addr → Option Obj) (as : List Addr) : List Addr := as.flatMap fun a => (match g a with
  | some o => He.refsO o
  | none => [])
def r1 (es : List DictEntry) : List Addr := es.flatMap fun e => He.refV e.val
def asK (g : Addr → Option Obj) : List Addr := (mainGlobals :: (r1 ((glE g).take 24) ++ rfs g (r1 ((glE g).take 24)))) ++ (r1 (glE g) ++ rfs g (r1 (glE g)))
theorem frG_mem {g : Addr → Option Obj} {a : Addr} : ∀ as : List Addr, a ∈ as → (He.frG g as).lookup a = g a
  | [], h => by cases h
  | b :: r, h => by
    unfold He.frG
    rw [List.filterMap_cons]
    cases hb : g b with
    | none =>
      rcases List.mem_cons.mp h with rfl | hr
      · rw [hb]
        show (He.frG g r).lookup a = none
        cases q : (He.frG g r).lookup a with
        | none => rfl
        | some o => rw [He.frG_at r q] at hb; cases hb
      · exact frG_mem r hr
    | some o =>
      show List.lookup a ((b, o) :: He.frG g r) = g a
      rw [List.lookup_cons]
      cases q : a == b with
      | true =>
        have e : a = b := eq_of_beq q
        rw [e, hb]
      | false =>
        rcases List.mem_cons.mp h with rfl | hr
        · rw [beq_self_eq_true] at q; cases q
        · exact frG_mem r hr
abbrev KG (g : Addr → Option Obj) : PySem.W.Frag := He.frG g (asK g)
theorem asK_main {g : Addr → Option Obj} : mainGlobals ∈ asK g := List.mem_append_left _ List.mem_cons_self
theorem asK_r1 {g : Addr → Option Obj} {e : DictEntry} {f : Addr} (he : e ∈ glE g) (hv : e.val = .ref f) : f ∈ r1 (glE g) := List.mem_flatMap.mpr ⟨e, he, by rw [hv]; exact List.mem_singleton.mpr rfl⟩
theorem asK_1 {g : Addr → Option Obj} {f : Addr} (h : f ∈ r1 (glE g)) : f ∈ asK g := List.mem_append_right _ (List.mem_append_left _ h)
theorem asK_2 {g : Addr → Option Obj} {f c : Addr} {o : Obj} (h : f ∈ r1 (glE g)) (ho : g f = some o) (hc : c ∈ He.refsO o) : c ∈ asK g := List.mem_append_right _ (List.mem_append_right _ (List.mem_flatMap.mpr ⟨f, h, by rw [ho]; exact hc⟩))
theorem glE_at {g : Addr → Option Obj} {e : DictEntry} (h : e ∈ glE g) : ∃ c d es n sl, g mainGlobals = some ⟨c, d, .dict es n, sl⟩ ∧ glE g = es.toList := by
  have k : glE g = glE g := rfl
  unfold glE at h k
  cases q : g mainGlobals with
  | none => rw [q] at h; cases h
  | some o =>
    obtain ⟨c, d, dt, sl⟩ := o
    rw [q] at h
    cases dt with
    | dict es n => exact ⟨c, d, es, n, sl, rfl, by unfold glE; rw [q]⟩
    | _ => cases h
def codeG (g : Addr → Option Obj) (v : Value) (x : Str) : Bool := match v with
  | .ref c => (match g c with
    | some ⟨_, _, .fields vs, _⟩ => (match vs.toList with
      | _ :: .str n _ :: _ => n == x
      | _ => false)
    | _ => false)
  | _ => false
def fnB (g : Addr → Option Obj) (t : List (Nat × DictEntry)) (q : Str × Str × Stmt) : Bool := (match HandSHeadRun.frNat (enc q.1) fun n => lkT n t with
  | some e => e.key.isStr q.1 && (match e.val with
    | .ref f => (match g f with
      | some ⟨_, _, .func fd, _⟩ => codeG g fd.code q.2.1
      | _ => false)
    | _ => false)
  | _ => false)
abbrev FnO : Type := Option (Str × Str × Arguments × FuncBody × Scope × Addr × List (Str × Addr) × Value × Addr)
def fnO (g : Addr → Option Obj) (t : List (Nat × DictEntry)) (q : Str × Str × Stmt) : FnO := (match HandSHeadRun.frNat (enc q.1) fun n => lkT n t with
  | some e => (match e.val with
    | .ref f => (match g f with
      | some ⟨_, _, .func u, _⟩ => some (u.name, u.qualname, u.params, u.body, u.scope, u.globals, u.closure, u.defaults, u.builtins)
      | _ => none)
    | _ => none)
  | _ => none)
def fnV (q : Str × Str × Stmt) : FnO := some (q.2.1, q.2.1, defArgs q.2.2, .stmts (defBody q.2.2), defScope q.2.2, mainGlobals, [], .none, builtinsNs)
def FnK (K : PySem.W.Frag) (q : Str × Str × Stmt) : Prop := ∃ f fd, nsIn K mainGlobals q.1 = some (some (.ref f)) ∧ Fun K q.2.1 q.2.1 q.2.2 f fd
theorem fnK_of {g : Addr → Option Obj} {q : Str × Str × Stmt} (hb : fnB g (tbl (glE g)) q = true) (ho : fnO g (tbl (glE g)) q = fnV q) : FnK (KG g) q := by
  unfold fnB at hb
  unfold fnO at ho
  rw [HandSHeadRun.frNat_eq] at hb ho
  cases e1 : lkT (enc q.1) (tbl (glE g)) with
  | none => rw [e1] at hb; cases hb
  | some e =>
    rw [e1] at hb ho
    obtain ⟨hk, hb⟩ := He.ba hb
    obtain ⟨hf, hm⟩ := lkT_some hk _ e1
    obtain ⟨c0, d0, es, n0, sl0, hg, hes⟩ := glE_at hm
    cases e2 : e.val with
    | ref f =>
      rw [e2] at hb
      simp only [e2] at ho
      replace hb : (match g f with
        | some ⟨_, _, .func fd, _⟩ => codeG g fd.code q.2.1
        | _ => false) = true := hb
      have m1 : f ∈ r1 (glE g) := asK_r1 hm e2
      have hns : nsIn (KG g) mainGlobals q.1 = some (some (.ref f)) := by
        unfold nsIn
        rw [frG_mem _ asK_main, hg]
        rw [hes] at hf
        simp only [hf, e2]
      cases e3 : g f with
      | none => rw [e3] at hb; cases hb
      | some o =>
        obtain ⟨oc, od, dt, osl⟩ := o
        rw [e3] at hb ho
        cases dt with
        | func fd =>
          obtain ⟨m1_, m2_, m3_, m4_, m5_, m6_, m7_, m8_, m9_, m10_, m11_, m12_, m13_, m14_, m15_⟩ := fd
          have e4 : (some (m1_, m2_, m3_, m4_, m5_, m6_, m7_, m8_, m15_) : FnO) = some (q.2.1, q.2.1, defArgs q.2.2, .stmts (defBody q.2.2), defScope q.2.2, mainGlobals, [], .none, builtinsNs) := ho
          simp only [Option.some.injEq, Prod.mk.injEq] at e4
          obtain ⟨h1, h2, h3, h4, h5, h6, h7, h8, h9⟩ := e4
          have hb' : codeG g m13_ q.2.1 = true := hb
          have lk : (KG g).lookup f = g f := frG_mem _ (asK_1 m1)
          cases m13_ with
          | ref c =>
            have m2 : c ∈ asK g := asK_2 m1 e3 (by
              unfold He.refsO
              refine List.mem_append_right _ (List.mem_append_left _ ?_)
              exact List.mem_singleton.mpr rfl)
            have hc : codeIn (KG g) (.ref c) q.2.1 = true := by
              have lc : (KG g).lookup c = g c := frG_mem _ m2
              unfold codeIn
              simp only [lc]
              exact hb'
            have kp : keepIn (KG g) (.ref f) = true := by
              unfold keepIn
              simp only [lk, e3]
            subst h1 h3 h4 h5 h6 h7 h8 h9
            refine ⟨f, _, hns, fun_mk (kV := m9_) (doc := m10_) (pm := m11_) (an := m12_) (cdv := .ref c) (ct := m14_) (oc := oc) (od := od) (osl := osl) ?_ hc kp⟩
            rw [lk, e3, ← h2]
          | _ => cases hb'
        | _ => cases hb
    | _ => rw [e2] at hb; cases hb
def frB (t : List (Nat × DictEntry)) (x : Str) : Bool := (match HandSHeadRun.frNat (enc x) fun n => lkT n t with
  | none => true
  | some _ => false)
theorem frB_ok {g : Addr → Option Obj} {x : Str} (hn : (glE g).isEmpty = false) (hr : ((glE g).any (·.refKey)) = false) (h : frB (tbl (glE g)) x = true) : nsIn (KG g) mainGlobals x = some none := by
  unfold frB at h
  rw [HandSHeadRun.frNat_eq] at h
  cases e1 : lkT (enc x) (tbl (glE g)) with
  | some e => rw [e1] at h; cases h
  | none =>
    have hf := lkT_none _ e1
    cases q : glE g with
    | nil => rw [q] at hn; cases hn
    | cons e r =>
      obtain ⟨c0, d0, es, n0, sl0, hg, hes⟩ := glE_at (g := g) (e := e) (by rw [q]; exact List.mem_cons_self)
      unfold nsIn
      rw [frG_mem _ asK_main, hg]
      rw [hes] at hf hr
      simp only [hf, hr]
      rfl
def Qs.ckK (Q : Qs) (K : PySem.W.Frag) : Bool := Q.excs.all (excB K) && (Q.xcs.all (xcB K) && (Q.isv.all (isvB K) && (Q.exm.all (exmB K) && (Q.cints.all (intB K) && (Q.cstrs.all (strB K) && Q.ctups.all (tupB K))))))
def Qs.ckT (Q : Qs) (g : Addr → Option Obj) (t : List (Nat × DictEntry)) : Bool := Q.fns.all (fnB g t) && Q.frees.all (frB t)
abbrev QO : Type := Bool × Bool × List FnO
def Qs.obsG (Q : Qs) (g : Addr → Option Obj) : QO := (!(glE g).isEmpty && (!((glE g).any (·.refKey)) && Q.ckK (KG g)), tblK (glE g) fun t => (Q.ckT g t, Q.fns.map (fnO g t)))
def Qs.val (Q : Qs) : QO := (true, true, Q.fns.map fnV)
structure Says (Q : Qs) (K : PySem.W.Frag) : Prop where
  fn : ∀ q ∈ Q.fns, FnK K q
  fr : ∀ x ∈ Q.frees, nsIn K mainGlobals x = some none
  ck : Q.ckK K = true
theorem says_of {Q : Qs} {g : Addr → Option Obj} (h : Q.obsG g = Q.val) : Says Q (KG g) := by
  unfold Qs.obsG at h
  rw [tblK_eq] at h
  have h1 : (!(glE g).isEmpty && (!((glE g).any (·.refKey)) && Q.ckK (KG g))) = true := congrArg (fun z : QO => z.1) h
  have h2 : Q.ckT g (tbl (glE g)) = true := congrArg (fun z : QO => z.2.1) h
  have h3 : Q.fns.map (fnO g (tbl (glE g))) = Q.fns.map fnV := congrArg (fun z : QO => z.2.2) h
  obtain ⟨a1, h1⟩ := He.ba h1
  obtain ⟨a2, a3⟩ := He.ba h1
  obtain ⟨b1, b2⟩ := He.ba h2
  refine ⟨fun q hq => fnK_of (List.all_eq_true.mp b1 q hq) (List.map_inj_left.mp h3 q hq), fun x hx => frB_ok (by simpa using a1) (by simpa using a2) (List.all_eq_true.mp b2 x hx), a3⟩
def Qs.hook (Q : Qs) : PySem.W.Hook where
  α := QO
  obs := fun s => Q.obsG s.heap.get?
  val := fun _ => Q.val
  says := fun _ h => ∃ K : PySem.W.Frag, K.In h ∧ Says Q K
  of := fun _ _ e => ⟨_, He.frG_in, says_of e⟩
  keeps := fun _ _ _ ⟨K, hIn, q⟩ kp => ⟨K, PySem.W.Frag.In.keeps hIn kp, q⟩
theorem Qs.obsG_eq {Q : Qs} {g : Addr → Option Obj} {s : Shared} (h : ∀ a, g a = s.heap.get? a) : Q.obsG g = Q.hook.obs s := by
  have eg : g = s.heap.get? := funext fun a => h a
  rw [eg] <;> rfl
section
variable {Q : Qs} {K : PySem.W.Frag} {h : Heap} {mg : Str → Option Value}
theorem nsRef {x : Str} {P : Addr → Bool} (c : (match nsIn K mainGlobals x with
  | some (some (.ref C)) => P C
  | _ => false) = true) : ∃ C, nsIn K mainGlobals x = some (some (.ref C)) ∧ P C = true := by
  cases e : nsIn K mainGlobals x with
  | none => rw [e] at c; cases c
  | some o =>
    rw [e] at c
    cases o with
    | none => cases c
    | some v =>
      cases v with
      | ref C => exact ⟨C, rfl, c⟩
      | _ => cases c
theorem Qs.fn' (X : K.In h) (G : h.Ns mainGlobals mg) (c : Says Q K) (i : Nat) {y x : Str} {st : Stmt} (hi : Q.fns[i]? = some (y, x, st) := by rfl) : ∃ f fd, Fun K x x st f fd ∧ mg y = some (.ref f) := by
  obtain ⟨f, fd, e, F⟩ := c.fn _ (List.mem_of_getElem? hi)
  exact ⟨f, fd, F, PySem.W.mg_of X G e⟩
theorem Qs.fn (X : K.In h) (G : h.Ns mainGlobals mg) (c : Says Q K) (i : Nat) {x : Str} {st : Stmt} (hi : Q.fns[i]? = some (x, x, st) := by rfl) : FnIn K mg x st := Qs.fn' X G c i hi
theorem Qs.free (X : K.In h) (G : h.Ns mainGlobals mg) (c : Says Q K) (i : Nat) {x : Str} (hi : Q.frees[i]? = some x := by rfl) : mg x = none :=
  PySem.W.mg_none_of X G (c.fr _ (List.mem_of_getElem? hi))
theorem Qs.exc (X : K.In h) (G : h.Ns mainGlobals mg) (c : Says Q K) (i : Nat) {x : Str} (hi : Q.excs[i]? = some x := by rfl) : ExC K mg x := by
  have c1 : excB K x = true := List.all_eq_true.mp (He.ba c.ck).1 _ (List.mem_of_getElem? hi)
  obtain ⟨C, e, c2⟩ := nsRef (P := fun C => PySem.W.excIn K C veTail "ValueError.__new__" && (keepIn K (.ref C) && (eqB (PySem.W.subIn K (.ref C) (.type "BaseException")) (some true) && isTy (PySem.W.typeIn K (.ref C)) "type"))) c1
  obtain ⟨d1, c2⟩ := He.ba c2
  obtain ⟨d2, c2⟩ := He.ba c2
  obtain ⟨d3, d4⟩ := He.ba c2
  exact ⟨C, PySem.W.mg_of X G e, d1, d2, eqB_ok d3, isTy_ok d4⟩
theorem Qs.xc (X : K.In h) (G : h.Ns mainGlobals mg) (c : Says Q K) (i : Nat) {x : Str} (hi : Q.xcs[i]? = some x := by rfl) : XeC K mg x := by
  have c1 : xcB K x = true := List.all_eq_true.mp (He.ba (He.ba c.ck).2).1 _ (List.mem_of_getElem? hi)
  unfold xcB at c1
  obtain ⟨C, e, c2⟩ := nsRef c1
  obtain ⟨d1, c2⟩ := He.ba c2
  obtain ⟨d2, c2⟩ := He.ba c2
  obtain ⟨d3, c2⟩ := He.ba c2
  obtain ⟨d4, c2⟩ := He.ba c2
  obtain ⟨d5, c2⟩ := He.ba c2
  obtain ⟨d6, c2⟩ := He.ba c2
  obtain ⟨d7, d8⟩ := He.ba c2
  exact ⟨C, PySem.W.mg_of X G e, isBn_ok d1, isNo_ok d2, eqB_ok d3, d4, isBn_ok d5, isBn_ok d6, eqB_ok d7, eqB_ok d8⟩
theorem Qs.em (X : K.In h) (G : h.Ns mainGlobals mg) (c : Says Q K) (i : Nat) {x y : Str} {b : Bool} (hi : Q.exm[i]? = some (x, y, b) := by rfl) : ExM K mg x y b := by
  have c1 : exmB K (x, y, b) = true := List.all_eq_true.mp (He.ba (He.ba (He.ba (He.ba c.ck).2).2).2).1 _ (List.mem_of_getElem? hi)
  unfold exmB at c1
  obtain ⟨C, e, c2⟩ := nsRef c1
  obtain ⟨C2, e2, c3⟩ := nsRef c2
  unfold ExM
  rw [PySem.W.mg_of X G e, PySem.W.mg_of X G e2]
  exact eqB_ok c3
theorem Qs.int (X : K.In h) (G : h.Ns mainGlobals mg) (c : Says Q K) (i : Nat) {x : Str} {n : Int} (hi : Q.cints[i]? = some (x, n) := by rfl) : CnIn K mg x (.int n) := by
  have c1 : intB K (x, n) = true := List.all_eq_true.mp (He.ba (He.ba (He.ba (He.ba (He.ba c.ck).2).2).2).2).1 _ (List.mem_of_getElem? hi)
  unfold intB at c1
  cases e : nsIn K mainGlobals x with
  | none => rw [e] at c1; cases c1
  | some o =>
    rw [e] at c1
    cases o with
    | none => cases c1
    | some v =>
      cases v with
      | int j t =>
        have ej : j = n := of_decide_eq_true c1
        rw [ej] at e
        exact cn_int (PySem.W.mg_of X G e)
      | _ => cases c1
theorem Qs.str (X : K.In h) (G : h.Ns mainGlobals mg) (c : Says Q K) (i : Nat) {x z : Str} (hi : Q.cstrs[i]? = some (x, z) := by rfl) : CnIn K mg x (.str z) := by
  have c1 : strB K (x, z) = true := List.all_eq_true.mp (He.ba (He.ba (He.ba (He.ba (He.ba (He.ba c.ck).2).2).2).2).2).1 _ (List.mem_of_getElem? hi)
  unfold strB at c1
  cases e : nsIn K mainGlobals x with
  | none => rw [e] at c1; cases c1
  | some o =>
    rw [e] at c1
    cases o with
    | none => cases c1
    | some v =>
      cases v with
      | str j t =>
        have ej : j = z := of_decide_eq_true c1
        rw [ej] at e
        exact cn_str (PySem.W.mg_of X G e)
      | _ => cases c1
theorem Qs.tup (X : K.In h) (G : h.Ns mainGlobals mg) (c : Says Q K) (i : Nat) {x : Str} {ls : List (Int ⊕ Str)} (hi : Q.ctups[i]? = some (x, ls) := by rfl) : CnIn K mg x (.tup (ls.map litD)) := by
  have c1 : tupB K (x, ls) = true := List.all_eq_true.mp (He.ba (He.ba (He.ba (He.ba (He.ba (He.ba c.ck).2).2).2).2).2).2 _ (List.mem_of_getElem? hi)
  unfold tupB at c1
  obtain ⟨p, e, c2⟩ := nsRef c1
  cases q : K.lookup p with
  | none => rw [q] at c2; cases c2
  | some o =>
    obtain ⟨oc, od, dt, osl⟩ := o
    rw [q] at c2
    cases oc with
    | type cc =>
      cases dt with
      | seq its n =>
        obtain ⟨d1, c3⟩ := He.ba (show ((cc == "tuple") && (Nat.ble its.size 1000 && litsB ls its.toList)) = true from c2)
        obtain ⟨d2, d3⟩ := He.ba c3
        have ec : cc = "tuple" := eq_of_beq d1
        subst ec
        have hq : K.lookup p = some ⟨.type "tuple", od, .seq its.toList.toArray n, osl⟩ := by rw [q]
        exact cn_tup (PySem.W.mg_of X G e) hq (by rw [Array.length_toList]; exact Nat.le_of_ble_eq_true d2) (litsB_ok d3)
      | _ => cases c2
    | _ => cases dt <;> cases c2
end
theorem walk_h {l : PySem.W.OpenLaw} {n k : Nat} {q : Program} {loose : List Str} {XP : (Str → Option Value) → Heap → Prop} {d : DefRec} {Q : Qs} {x : Str} (hn : l.most = some n) (himp : importsNone q = true) (tree : l.prog.given.tree = none) (few : n ≤ sizeLine) (nodef : d.params.defaults = []) (room : Room k callerA)
    (F : ∀ (w : World) (K : PySem.W.Frag) (mg : Str → Option Value) (fa : Addr) (h : Heap), Says Q K → K.In h → h.Ns mainGlobals mg → mg d.name = some (.ref fa) → ∃ fd : FuncData, (∀ (s : Shared) (u : Value), BindsTo s fd ⟨[u], []⟩ [(x, u)]) ∧ ∀ b : Heap, K.In b → b.Ns mainGlobals mg → FnG l.prog w K mg b k fa fd [x] (spL K n)) :
    PySem.W.WalkO q loose XP Q.hook.says l.row.toRowW d [] (fun f vs => PySem.call f vs) := by
  refine Att.attach_callB hn nodef ?_
  intro w _ s1 mg _ fa _ _ _ _ a _ ns G Y _ _ _ hmg scr inz hl bits gens
  obtain ⟨K, hK, c⟩ := Y
  obtain ⟨fd, bnd, go⟩ := F w K mg fa _ c hK G.T.g hmg
  exact top_call hK G.T.g G.T.b G.T.builtins G.T.nolimit (G.T.seer himp) tree gens scr inz (Nat.le_trans hl few) room go bnd (fun H hS => ⟨a, ns, rfl, hS, hl, bits, fun _ => rfl⟩)
end Dt.Hk
namespace Dt.Pc
open PySem PySem.W PySem.Calls PyProof.Rows HandSHeadRun
theorem boot0_abs (w : World) (os : OsState) : (boot0 w os).abs = ⟨boot_heap w.params, #[], boot_drawn, boot_toks, os⟩ ∧ (boot_heap w.params).objs.size = 11 := by
  have z : (putAll (boot_heap w.params).objs.toList .nil 0).map (fun r => r.2) = some 11 := by kernel_rfl
  unfold boot0
  cases e : putAll (boot_heap w.params).objs.toList .nil 0 with
  | none => rw [e] at z; cases z
  | some r =>
    obtain ⟨t, n⟩ := r
    rw [e] at z
    have en0 : n = 11 := Option.some.inj z
    have eh := putAll_heap e
    constructor
    · show (⟨absHeap t n (boot_heap w.params).life, #[], boot_drawn, boot_toks, os⟩ : Shared) = _
      rw [eh]
    · rw [← en0, ← eh]
      exact absHeap_size t n _
section
variable {p : Program} {w : World} {os : OsState} {r : Shared}
theorem chain_start {N : Nat} (hA : goK (stQ p w) 11 (bootAnn w) 12 (boot0 w os) (topStub p) = some (m0 p w os, ⟨denQ tabQ (codeT p), codeT p, default, B0⟩))
    (hB : segF (stQ p w) 11 (bootAnn w) 100 (m0 p w os) (blockT p) = some (.next, m1 p w os, codeT p, default))
    (k : topRun treeTable p w 11 (bootAnn w) N (m1 p w os).abs (restT p 0 default) = some r) : topRun treeTable p w 11 (bootAnn w) (12 + (100 + N)) (boot0 w os).abs (topStub p) = some r := by
  unfold stQ at hA hB
  rw [← stepQ_eq, ← denQ_eq, ← tabQ_eq] at hA hB
  exact go_top (goK_ok hA) (piece_block (segF_ok hB) k)
theorem chain_step {N a m : Nat} {s s' : SharedT} {q q' : Pos} (h : segF (stQ p w) 11 (bootAnn w) 3000 s (pieceT p a m q) = some (.next, s', codeT p, q'))
    (k : topRun treeTable p w 11 (bootAnn w) N s'.abs (restT p (a + m) q') = some r) : topRun treeTable p w 11 (bootAnn w) (3000 + N) s.abs (restT p a q) = some r := by
  unfold stQ at h
  rw [← stepQ_eq, ← denQ_eq, ← tabQ_eq] at h
  have k2 : topRun treeTable p w 11 (bootAnn w) N s'.abs (restOf (((behindTheImports p).drop a).drop m) (envT p) (codeT p) q' [topFrame default]) = some r := by
    rw [List.drop_drop]
    exact k
  have z := piece_app (l := ((behindTheImports p).drop a).take m) (segF_ok h) k2
  rw [List.take_append_drop] at z
  exact z
theorem chain_end {a : Nat} {q : Pos} {s s' : SharedT} (h : goE (stQ p w) 11 (bootAnn w) 300 s (restT p a q) = some s') : topRun treeTable p w 11 (bootAnn w) 300 s.abs (restT p a q) = some s'.abs := by
  unfold stQ at h
  rw [← stepQ_eq, ← denQ_eq, ← tabQ_eq] at h
  exact goE_ok h
end
theorem left_pcs {p q : Program} {loose : List PySem.Str} {Xt : Shared → Bool} {α : Type} {Yf : Shared → α} {Ya : World → α} {N M : Nat} (fin : World → OsState → SharedT)
    (e : opening p = plainProg p.main.scope.names) (hN : Nat.ble 600 N = true) (f : ∀ s, fenceModules? p s = some s) (le : Nat.ble M N = true)
    (run : ∀ (w : World) (os : OsState), topRun treeTable p w 11 (bootAnn w) M (boot0 w os).abs (topStub p) = some (fin w os).abs)
    (k1 : ∀ w os, looksF p (boot_heap w.params) (fin w os).abs = true) (k2 : ∀ w os, openSeen q loose (importedModules p.main.body) Xt true (fin w os).abs = openGood q loose) (k3 : ∀ w os, Yf (fin w os).abs = Ya w) :
    LeftO p q loose Xt Yf Ya N true := fun w => by
  obtain ⟨⟨h, gs, d, k, os⟩, a, a'⟩ := Option.map_eq_some_iff.mp (boot_open e hN f w)
  obtain ⟨rfl, rfl, rfl, rfl⟩ : h = boot_heap w.params ∧ gs = Array.mk [] ∧ d = boot_drawn ∧ k = boot_toks := by simpa using a'
  have r0 := run w os
  obtain ⟨z1, z2⟩ := boot0_abs w os
  rw [z1] at r0
  have r := topRun_mono (N - M) _ _ _ _ r0
  rw [show M + (N - M) = N by have := Nat.le_of_ble_eq_true le; omega] at r
  have l1' : (staticsOk (importedModules p.main.body) (boot_heap w.params) (fin w os).abs.heap && namesBound p (fin w os).abs.heap && gensDone (fin w os).abs && laidKept (boot_heap w.params) (fin w os).abs.heap) = true := k1 w os
  have t : topFrom treeTable p w N ⟨boot_heap w.params, Array.mk [], boot_drawn, boot_toks, os⟩ = some (fin w os).abs := by
    unfold topFrom
    dsimp only
    rw [boot_ns, z2]
    show (topRun treeTable p w 11 (bootAnn w) N ⟨boot_heap w.params, #[], boot_drawn, boot_toks, os⟩ (topStub p)).bind _ = _
    rw [r]
    show (match staticsOk (importedModules p.main.body) (boot_heap w.params) (fin w os).abs.heap && namesBound p (fin w os).abs.heap && gensDone (fin w os).abs && laidKept (boot_heap w.params) (fin w os).abs.heap with | true => some (fin w os).abs | false => none) = _
    rw [l1']
  unfold openEnds
  rw [a]
  show (topFrom treeTable p w N _).map _ = _
  rw [t]
  exact congrArg some (Prod.ext (k2 w os) (k3 w os))
theorem head_pcs {r : OpenRow} {q : Program} {H : Hook} {ob : SharedT → H.α} {M : Nat} {loose : List PySem.Str} {d : DefRec} {kwd : List (PySem.Str × PySem.Expr)} (fin : World → OsState → SharedT) (ho : ∀ s : SharedT, ob s = H.obs s.abs)
    (e : opening r.prog = plainProg r.prog.main.scope.names) (f : ∀ s, fenceModules? r.prog s = some s)
    (run : ∀ (w : World) (os : OsState), topRun treeTable r.prog w 11 (bootAnn w) M (boot0 w os).abs (topStub r.prog) = some (fin w os).abs)
    (l1 : ∀ w os, looksF r.prog (boot_heap w.params) (fin w os).abs = true)
    (l2 : ∀ w os, seenQ q loose (importedModules r.prog.main.body) (fun s => xlAt q [] s && recOk r.toRowW.records s) (fin w os).abs = openGood q loose) (l3 : ∀ w os, ob (fin w os) = H.val w)
    (hdef : defOf q r.name = some (d, kwd)) (hp : r.prog.theDef r.name = some (d.params, d.body, d.scope)) (hk : kwWritten? d.params.kwonlyargs d.params.kw_defaults = some kwd)
    (hwr : (!r.writes || r.records.isEmpty) = true) (k1 : r.wellSaid = true) (ok : (chainsOk q && opensWell r.prog && (frees r.toRowW && r.within.isEmpty)) = true) (hb : r.prog.bare) (hw : r.toRowW.promised)
    (call : WalkO q loose (XL q []) H.says r.toRowW d kwd fun f vs => PySem.call f vs) : r.Holds := by
  have left : LeftO r.prog q loose (fun s => xlAt q [] s && recOk r.toRowW.records s) H.obs H.val (M + 600) true :=
    left_pcs (M := M) fin e (Nat.ble_eq_true_of_le (by omega)) f (Nat.ble_eq_true_of_le (by omega)) run l1 (fun w os => by rw [seenQ_eq]; exact l2 w os) (fun w os => by rw [← ho]; exact l3 w os)
  exact holds_open (r := r) (q := q) (loose := loose) (XP := XL q []) (YP := H.says) (d := d) (kwd := kwd) left H.of H.keeps (fun s z => xl_of s (Bool.and_eq_true_iff.mp z).1) XL.keeps hdef hp hk (fun s z => recFacts_of (Bool.and_eq_true_iff.mp z).2) hwr k1 ok hb hw call
end Dt.Pc
namespace Dt.Pc
open PySem PySem.W PySem.Calls PyProof.Rows HandSHeadRun Dt.Hk
end Dt.Pc
namespace K04
namespace Hd
open PySem PySem.W PySem.Calls PyProof.Rows HandSHeadRun Dt.Pc Dt.Hk
abbrev R : PySem.W.OpenRow := PySem.W.OpenLaw.row PySem.Challenge.rw_restlines_k04_nets_refused
abbrev P : Program := R.prog
abbrev qv : Program := PySem.W.view R.prog [44]
def topS (i : Nat) : Stmt := PySem.Challenge.pw_restlines_k04_nets_refused.main.body.getD i (.Pass ⟨0, 0, 0, 0⟩)
def qF0 : List (Str × Str × Stmt) := [("common", "common", topS 7), ("fraction", "fraction", topS 8), ("plus", "plus", topS 9), ("is_less", "is_less", topS 10), ("total", "total", topS 11), ("ask", "ask", topS 22), ("ask_fraction", "ask_fraction", topS 23), ("ask_line", "ask_line", topS 24), ("ask_stand", "ask_stand", topS 25), ("ask_rates", "ask_rates", topS 26), ("ask_counts", "ask_counts", topS 27), ("ask_net", "ask_net", topS 28), ("made_net", "made_net", topS 29), ("_law_stream", "_law_stream", topS 31), ("_law_take", "_law_take", topS 32), ("_law_fraction", "_law_fraction", topS 33), ("_law_line", "_law_line", topS 34), ("_law_good", "_law_good", topS 35), ("_law_of_line", "_law_of_line", topS 36), ("_law_of_stand", "_law_of_stand", topS 37), ("_law_of_comers", "_law_of_comers", topS 38), ("_law_by_kind", "_law_by_kind", topS 39), ("_law_of_whole", "_law_of_whole", topS 40), ("_law_broken", "_law_broken", topS 41), ("_law_refused", "_law_refused", topS 42), ("_law_at_last", "_law_at_last", topS 43), ("law", "law", topS 44)]
def qM0 : List (Str × Str × Bool) := [("NoNet", "NoNet", true), ("NoNet", "RestError", true)]
def qs : Qs := { fns := qF0, frees := ["abs", "enumerate", "int", "isinstance", "len", "list", "max", "min", "range", "repr", "sum", "zip"], excs := ["NoFraction", "NoNet", "RestError"], xcs := ["NoNet"], isv := [], exm := qM0, cints := [("MOST_COMERS", 8), ("MOST_LINES", 8), ("MOST_ROOM", 9), ("MOST_SPEEDS", 6), ("MOST_STANDS", 12), ("SIZE", 1000)], cstrs := [("OPEN", "open"), ("SHUT", "shut")], ctups := [("NOUGHT", [.inl (0), .inl (1)]), ("ONE", [.inl (1), .inl (1)]), ("RULES", [.inr "stay", .inr "lose", .inr "skip"])] }
def ob (s : PySem.W.SharedT) : Dt.Hk.QO := qs.obsG (HandSHeadRun.getT s)
theorem ob_eq (s : PySem.W.SharedT) : ob s = qs.hook.obs s.abs := Qs.obsG_eq (HandSHeadRun.getT_eq s)
def nm0 : List Str := ["RestError", "NoFraction", "NoNet", "NOUGHT", "ONE", "common", "fraction", "plus", "is_less", "total", "MOST_LINES", "MOST_STANDS", "MOST_SPEEDS", "MOST_ROOM", "MOST_COMERS", "SIZE", "RULES", "OPEN", "SHUT", "ask", "ask_fraction", "ask_line", "ask_stand", "ask_rates", "ask_counts", "ask_net", "made_net", "_law_stream", "_law_take", "_law_fraction"]
def nm1 : List Str := ["_law_line", "_law_good", "_law_of_line", "_law_of_stand", "_law_of_comers", "_law_by_kind", "_law_of_whole", "_law_broken", "_law_refused", "_law_at_last"]
def names : List Str := nm0 ++ nm1
noncomputable def s0 (w : World) (os : OsState) : SharedT := m1 P w os
theorem pA (w : World) (os : OsState) : goK (stQ P w) 11 (bootAnn w) 12 (boot0 w os) (topStub P) = some (m0 P w os, ⟨denQ tabQ (codeT P), codeT P, default, B0⟩) := by kernel_rfl
theorem pB (w : World) (os : OsState) : segF (stQ P w) 11 (bootAnn w) 100 (m0 P w os) (blockT P) = some (.next, m1 P w os, codeT P, default) := by kernel_rfl
def c1 : List Ch := [.modl, .rest, .cls 24, .cls 24]
noncomputable def s1 (w : World) (os : OsState) : SharedT := mid P w c1 0 (s0 w os)
def c2 : List Ch := [.modl, .puts 2, .defs [false, false, false, false, false], .modl, .puts 9, .defs [false, false, false, true, true, true, true, true], .modl, .defs [false, false, false]]
noncomputable def s2 (w : World) (os : OsState) : SharedT := mid P w c2 4 (s1 w os)
def c3 : List Ch := [.defs [true, true, false, false, true, true, true, false, false, true, false]]
noncomputable def s3 (w : World) (os : OsState) : SharedT := mid P w c3 34 (s2 w os)
theorem p1 (w : World) (os : OsState) : segF (stQ P w) 11 (bootAnn w) 3000 (s0 w os) (pieceT P 0 4 default) = some (.next, s1 w os, codeT P, ⟨6, 0, 7, 8⟩) := by kernel_rfl
theorem p2 (w : World) (os : OsState) : segF (stQ P w) 11 (bootAnn w) 3000 (s1 w os) (pieceT P 4 30 ⟨6, 0, 7, 8⟩) = some (.next, s2 w os, codeT P, ⟨122, 0, 127, 59⟩) := by kernel_rfl
theorem p3 (w : World) (os : OsState) : segF (stQ P w) 11 (bootAnn w) 3000 (s2 w os) (pieceT P 34 11 ⟨122, 0, 127, 59⟩) = some (.next, s3 w os, codeT P, ⟨298, 0, 311, 15⟩) := by kernel_rfl
noncomputable def fin (w : World) (os : OsState) : SharedT := mE P w 45 ⟨298, 0, 311, 15⟩ (s3 w os)
theorem pE (w : World) (os : OsState) : goE (stQ P w) 11 (bootAnn w) 300 (s3 w os) (restT P 45 ⟨298, 0, 311, 15⟩) = some (fin w os) := by kernel_rfl
theorem run (w : World) (os : OsState) : topRun treeTable P w 11 (bootAnn w) (12 + (100 + (3000 + (3000 + (3000 + 300))))) (boot0 w os).abs (topStub P) = some (fin w os).abs := chain_start (pA w os) (pB w os) (chain_step (p1 w os) (chain_step (p2 w os) (chain_step (p3 w os) (chain_end (pE w os)))))
theorem l1 (w : World) (os : OsState) : looksF P (boot_heap w.params) (fin w os).abs = true := by kernel_rfl
theorem l2 (w : World) (os : OsState) : seenQ qv names (importedModules P.main.body) (fun s => xlAt qv [] s && recOk R.toRowW.records s) (fin w os).abs = openGood qv names := by kernel_rfl
theorem l3 (w : World) (os : OsState) : ob (fin w os) = qs.val := by kernel_rfl
abbrev dl : DefRec := HandSHeadRun.topDef R.prog 44
theorem h1 : opening R.prog = plainProg R.prog.main.scope.names := by kernel_rfl
theorem h2 : ∀ s, fenceModules? R.prog s = some s := fun s => by kernel_rfl
theorem h3 : defOf qv R.name = some (dl, []) := by kernel_rfl
theorem h4 : R.prog.theDef R.name = some (dl.params, dl.body, dl.scope) := by kernel_rfl
theorem h5 : kwWritten? dl.params.kwonlyargs dl.params.kw_defaults = some [] := by kernel_rfl
theorem h6 : (!R.writes || R.records.isEmpty) = true := by rfl
theorem h8 : (chainsOk qv && opensWell R.prog && (frees R.toRowW && R.within.isEmpty)) = true := by decide +kernel
theorem h9 : R.prog.bare := ⟨rfl, rfl, rfl, rfl, rfl, by decide +kernel⟩
theorem h10 : dl.name = ("law" : PySem.Str) := by kernel_rfl
end Hd
end K04
section
open PySem PySem.W PyProof.Rows
set_option maxHeartbeats 0 in
theorem K04.Hd.h0 (h : (PySem.W.OpenLaw.row PySem.Challenge.rw_restlines_k04_nets_refused).wellSaid = true → (PySem.W.OpenLaw.row PySem.Challenge.rw_restlines_k04_nets_refused).Holds) : PySem.Challenge.rw_restlines_k04_nets_refused.Holds := by
  w_on; o_law
  exact h (by assumption)
set_option maxHeartbeats 0 in
theorem K04.Hd.h11 : (PySem.W.OpenLaw.row PySem.Challenge.rw_restlines_k04_nets_refused).toRowW.promised := by
  w_witness2
end
namespace Std
open PySem PySem.Spec PyProof.Rows L2 Dt
noncomputable def fb_common : M Fl :=
  mSeq (mWh (mTest (mBin dNe (mVar 1) (M.pure (.int 0)))) (mPar 0 1 (mCons (mVar 1) (mCons (mBin dMod (mVar 0) (mVar 1)) (mNil)))))
    (mRet (mMove 0))
noncomputable def fn_common : List D → Rf := runF none 2 fb_common
noncomputable def fb_fraction : M Fl :=
  mSeq (mIf (mTest (mBin dEq (mVar 1) (M.pure (.int 0)))) (M.raise "NoFraction") (mNx))
    (mSeq (mSet 2 (mCallN 2 none fn_common (xV (mCall dAbs (mCons (mVar 0) (mNil))) (xV (mCall dAbs (mCons (mVar 1) (mNil))) (xNil)))))
    (mSeq (mIf (mTest (mBin dLt (mVar 1) (M.pure (.int 0)))) (mSet 2 (mOf (mBin dSub (M.pure (.int 0)) (mVar 2)))) (mNx))
    (mRet (mOf (mTup (mCons (mBin dDiv (mVar 0) (mVar 2)) (mCons (mBin dDiv (mVar 1) (mVar 2)) (mNil))))))))
noncomputable def fn_fraction : List D → Rf := runF none 3 fb_fraction
noncomputable def fb_plus : M Fl :=
  mRet (mCallN 2 none fn_fraction (xV (mBin dAdd (mBin dMul (mBin dIx (mVar 0) (M.pure (.int 0))) (mBin dIx (mVar 1) (M.pure (.int 1)))) (mBin dMul (mBin dIx (mVar 1) (M.pure (.int 0))) (mBin dIx (mVar 0) (M.pure (.int 1))))) (xV (mBin dMul (mBin dIx (mVar 0) (M.pure (.int 1))) (mBin dIx (mVar 1) (M.pure (.int 1)))) (xNil))))
noncomputable def fn_plus : List D → Rf := runF none 2 fb_plus
noncomputable def fb_is_less : M Fl :=
  mRet (mOf (mBin dLt (mBin dMul (mBin dIx (mVar 0) (M.pure (.int 0))) (mBin dIx (mVar 1) (M.pure (.int 1)))) (mBin dMul (mBin dIx (mVar 1) (M.pure (.int 0))) (mBin dIx (mVar 0) (M.pure (.int 1))))))
noncomputable def fn_is_less : List D → Rf := runF none 2 fb_is_less
noncomputable def fb_total : M Fl :=
  mSeq (mSet 1 (mOf (M.pure (.tup [(.int 0), (.int 1)]))))
    (mSeq (mFor (mIter (mVar 0)) (gN 2) (mSet 1 (mCallN 2 none fn_plus (xV (mVar 1) (xV (mVar 2) (xNil))))))
    (mRet (mMove 1)))
noncomputable def fn_total : List D → Rf := runF none 3 fb_total
noncomputable def fb__law_stream : M Fl :=
  mSeq (mIf (mTest (mBin dLt (mVar 1) (mCall dLen (mCons (mVar 0) (mNil))))) (mSeq (mSet 2 (mOf (mBin dIx (mVar 0) (mVar 1))))
    (mSeq (mSet 3 (mOf (mBin dAdd (mBin dAdd (mBin dMod (mVar 2) (M.pure (.int 2147483629))) (mBin dMul (mVar 1) (mVar 1))) (M.pure (.int 1)))))
    (mSeq (mIf (mTest (mBin dLt (mVar 2) (mBin dPow (M.pure (.int 10)) (M.pure (.int 18))))) (mSet 2 (mOf (M.pure (.int 0)))) (mNx))
    (mRet (mLst (mCons (mVar 2) (mCons (mVar 3) (mNil)))))))) (mNx))
    (mRet (mLst (mCons (M.pure (.int 0)) (mCons (mBin dAdd (mBin dMul (mVar 1) (mVar 1)) (M.pure (.int 11))) (mNil)))))
noncomputable def fn__law_stream : List D → Rf := runF none 4 fb__law_stream
noncomputable def fb__law_take : M Fl :=
  mSeq (mIf (mTest (mBin dEq (mPeek 0 (M.pure (.int 0))) (M.pure (.int 0)))) (mSeq (mPutAt 0 (mBin dMod (mBin dAdd (mBin dMul (mPeek 0 (M.pure (.int 1))) (M.pure (.int 48271))) (M.pure (.int 12345))) (M.pure (.int 2147483647))) (M.pure (.int 1)))
    (mRet (mOf (mBin dMod (mBin dMod (mBin dMul (mPeek 0 (M.pure (.int 1))) (mPeek 0 (M.pure (.int 1)))) (M.pure (.int 2147483629))) (mVar 1))))) (mNx))
    (mSeq (mSet 2 (mOf (mBin dMod (mPeek 0 (M.pure (.int 0))) (mVar 1))))
    (mSeq (mPutAt 0 (mBin dDiv (mPeek 0 (M.pure (.int 0))) (mVar 1)) (M.pure (.int 0)))
    (mRet (mMove 2))))
noncomputable def fn__law_take : List D → Rf := runF (some 0) 3 fb__law_take
noncomputable def fb__law_fraction : M Fl :=
  mSeq (mSet 2 (mOf (mCall dAbs (mCons (mVar 0) (mNil)))))
    (mSeq (mSet 3 (mOf (mVar 1)))
    (mSeq (mWh (mTest (mBin dGt (mVar 3) (M.pure (.int 0)))) (mPar 2 3 (mCons (mVar 3) (mCons (mBin dMod (mVar 2) (mVar 3)) (mNil)))))
    (mRet (mOf (mTup (mCons (mBin dDiv (mVar 0) (mVar 2)) (mCons (mBin dDiv (mVar 1) (mVar 2)) (mNil))))))))
noncomputable def fn__law_fraction : List D → Rf := runF none 4 fb__law_fraction
end Std
namespace Std
open PySem L2 Dt
theorem common_loop : ∀ (n a b : Nat), b < n → mWhN (mTest (mBin dNe (mVar 1) (M.pure (.int 0)))) (mPar 0 1 (mCons (mVar 1) (mCons (mBin dMod (mVar 0) (mVar 1)) (mNil)))) n [.fz (.int a), .fz (.int b)] = .ok .nx [.fz (.int (Nat.gcd a b : Nat)), .fz (.int 0)]
  | 0, a, b, h => by omega
  | n + 1, a, 0, h => by
    unfold mWhN
    simp
  | n + 1, a, b + 1, h => by
    unfold mWhN
    have e : ((a : Int).fmod ((b + 1 : Nat) : Int)) = ((a % (b + 1) : Nat) : Int) := by
      rw [Int.fmod_eq_emod_of_nonneg _ (by omega)]; rfl
    have hb : ((b + 1 : Nat) : Int) ≠ 0 := by omega
    have ih := common_loop n (b + 1) (a % (b + 1)) (by have := Nat.mod_lt a (show 0 < b + 1 by omega); omega)
    have hz : decide (((b + 1 : Nat) : Int) = 0) = false := decide_eq_false hb
    simp only [bind_ap, test_ap, bin_ap, var_ap, List.getElem?_cons_succ, List.getElem?_cons_zero, ok_bnd, pure_ap, opt_some, dNe_i, hz, Bool.not_false, asBl_bl, par_ap, cons_ap, nil_ap, dMod_i, modOk_of hb, if_true, List.set_cons_zero, List.set_cons_succ, e]
    rw [ih]
    congr 4
    rw [Nat.gcd_comm a (b + 1), Nat.gcd_rec (b + 1) a, Nat.gcd_comm]
theorem common_ok (a b : Nat) : fn_common [.int a, .int b] = .ok (.int (Nat.gcd a b : Nat)) .ff .non := by
  have h := common_loop (b + 1) a b (by omega)
  have hw := mWh_eq (t := mTest (mBin dNe (mVar 1) (M.pure (.int 0)))) (b := mPar 0 1 (mCons (mVar 1) (mCons (mBin dMod (mVar 0) (mVar 1)) (mNil)))) (n := b + 1) (ρ := [.fz (.int a), .fz (.int b)]) (by rw [h]; intro z; cases z)
  rw [h] at hw
  unfold fn_common runF fb_common
  simp [hw]
theorem e_common {a b : Int} (h : 0 ≤ a ∧ 0 ≤ b) : fn_common [.int a, .int b] = .ok (.int ((Nat.gcd a.toNat b.toNat : Nat) : Int)) .ff .non := by
  have := common_ok a.toNat b.toNat
  rw [Int.toNat_of_nonneg h.1, Int.toNat_of_nonneg h.2] at this
  exact this
theorem num_div (a b : Int) : (Rat.divInt a b).num = b.sign * a / ((Nat.gcd a.natAbs b.natAbs : Nat) : Int) := by
  rw [Rat.num_divInt, Int.gcd, Nat.gcd_comm]
theorem den_div {a b : Int} (hb : b ≠ 0) : (Rat.divInt a b).den = b.natAbs / Nat.gcd a.natAbs b.natAbs := by
  rw [Rat.den_divInt, if_neg hb, Int.gcd, Nat.gcd_comm]
theorem frac_pair {a b : Int} (hb : b ≠ 0) (s : Int) (hs : s = if b < 0 then 0 - ((Nat.gcd a.natAbs b.natAbs : Nat) : Int) else ((Nat.gcd a.natAbs b.natAbs : Nat) : Int)) :
    D.tup [.int (a.fdiv s), .int (b.fdiv s)] = fq (Rat.divInt a b) := by
  have hg : 0 < Nat.gcd a.natAbs b.natAbs := Nat.gcd_pos_of_pos_right _ (by omega)
  have da : ((Nat.gcd a.natAbs b.natAbs : Nat) : Int) ∣ a := Int.ofNat_dvd_left.mpr (Nat.gcd_dvd_left _ _)
  have db : ((Nat.gcd a.natAbs b.natAbs : Nat) : Int) ∣ b := Int.ofNat_dvd_left.mpr (Nat.gcd_dvd_right _ _)
  unfold fq
  rw [num_div, den_div hb, Int.natCast_ediv]
  generalize hG : ((Nat.gcd a.natAbs b.natAbs : Nat) : Int) = g at *
  by_cases h : b < 0
  · rw [if_pos h] at hs
    have es : s = -g := by omega
    rw [es, Int.fdiv_eq_ediv_of_dvd (Int.neg_dvd.mpr da), Int.fdiv_eq_ediv_of_dvd (Int.neg_dvd.mpr db), Int.sign_eq_neg_one_of_neg h, Int.ediv_neg, Int.ediv_neg]
    have e1 : (-1 * a) / g = -(a / g) := by
      rw [show -1 * a = -a by omega, Int.neg_ediv_of_dvd da]
    have e2 : ((b.natAbs : Nat) : Int) / g = -(b / g) := by
      rw [show ((b.natAbs : Nat) : Int) = -b by omega, Int.neg_ediv_of_dvd db]
    rw [e1, e2]
  · rw [if_neg h] at hs
    rw [hs, Int.fdiv_eq_ediv_of_dvd da, Int.fdiv_eq_ediv_of_dvd db, Int.sign_eq_one_of_pos (by omega)]
    rw [show ((b.natAbs : Nat) : Int) = b by omega, show (1 : Int) * a = a by omega]
theorem e_fraction {a b : Int} (hb : b ≠ 0) : fn_fraction [.int a, .int b] = .ok (fq (Rat.divInt a b)) .ff .non := by
  have hg : 0 < Nat.gcd a.natAbs b.natAbs := Nat.gcd_pos_of_pos_right _ (by omega)
  unfold fn_fraction runF fb_fraction
  by_cases h : b < 0
  · rw [← frac_pair (a := a) hb (-((Nat.gcd a.natAbs b.natAbs : Nat) : Int)) (by rw [if_pos h]; omega)]
    have hd : ∀ x : Int, divOk x (-((Nat.gcd a.natAbs b.natAbs : Nat) : Int)) = true := fun x => divOk_of (by omega)
    simp [hb, common_ok, h, hd]
  · rw [← frac_pair (a := a) hb ((Nat.gcd a.natAbs b.natAbs : Nat) : Int) (by rw [if_neg h])]
    have hd : ∀ x : Int, divOk x ((Nat.gcd a.natAbs b.natAbs : Nat) : Int) = true := fun x => divOk_of (by omega)
    simp [hb, common_ok, h, hd]
def Sz (n : Nat) (q : Rat) : Prop := q.num.natAbs < 2 ^ n ∧ q.den < 2 ^ n
theorem den_pos (q : Rat) : 0 < q.den := Nat.pos_of_ne_zero q.den_nz
theorem sz_div {a b : Int} {n : Nat} (hb : b ≠ 0) (h1 : a.natAbs < 2 ^ n) (h2 : b.natAbs < 2 ^ n) : Sz n (Rat.divInt a b) := by
  constructor
  · rw [num_div]
    refine Nat.lt_of_le_of_lt ?_ h1
    have hg : 0 < Nat.gcd a.natAbs b.natAbs := Nat.gcd_pos_of_pos_right _ (by omega)
    rw [Int.natAbs_ediv_of_dvd]
    · refine Nat.le_trans (Nat.div_le_self _ _) ?_
      rw [Int.natAbs_mul, Int.natAbs_sign_of_ne_zero hb, Nat.one_mul]; exact Nat.le_refl _
    · exact Int.dvd_mul_of_dvd_right (Int.ofNat_dvd_left.mpr (Nat.gcd_dvd_left _ _))
  · rw [den_div hb]
    exact Nat.lt_of_le_of_lt (Nat.div_le_self _ _) h2
theorem mul_lt_two {a b n m : Nat} (ha : a < 2 ^ n) (hb : b < 2 ^ m) : a * b < 2 ^ (n + m) := by
  rw [Nat.pow_add]; exact Nat.mul_lt_mul'' ha hb
theorem add_div (p q : Rat) : Rat.divInt (p.num * (q.den : Int) + q.num * (p.den : Int)) ((p.den : Int) * (q.den : Int)) = p + q := by
  rw [Rat.add_def', ← Int.natCast_mul, Rat.divInt_ofNat]
theorem sz_add {n m : Nat} {p q : Rat} (hp : Sz n p) (hq : Sz m q) : Sz (n + m + 1) (p + q) := by
  rw [← add_div]
  have d1 := den_pos p
  have d2 := den_pos q
  have h0 : ((p.den : Int) * (q.den : Int)) ≠ 0 := Int.mul_ne_zero (by omega) (by omega)
  have m1 := mul_lt_two hp.1 hq.2
  have m2 := mul_lt_two hq.1 hp.2
  have m3 := mul_lt_two hp.2 hq.2
  refine sz_div h0 ?_ ?_
  · refine Nat.lt_of_le_of_lt (Int.natAbs_add_le _ _) ?_
    rw [Int.natAbs_mul, Int.natAbs_mul, Int.natAbs_natCast, Int.natAbs_natCast, Nat.pow_succ]
    rw [Nat.add_comm m n] at m2
    omega
  · rw [Int.natAbs_mul, Int.natAbs_natCast, Int.natAbs_natCast, Nat.pow_succ]
    omega
theorem num_pos {q : Rat} (h : 0 < q) : 0 < q.num := by
  have := (Rat.lt_iff 0 q).mp h
  simpa using this
def sz (q : Rat) : Nat := max q.num.natAbs.log2 q.den.log2 + 1
theorem lt_log (n : Nat) : n < 2 ^ (n.log2 + 1) := Nat.lt_log2_self
theorem sz_Sz (q : Rat) : Sz (sz q) q := ⟨Nat.lt_of_lt_of_le (lt_log _) (Nat.pow_le_pow_right (by decide) (by unfold sz; omega)), Nat.lt_of_lt_of_le (lt_log _) (Nat.pow_le_pow_right (by decide) (by unfold sz; omega))⟩
theorem log_le {n k : Nat} (h : n < 2 ^ k) (hk : 1 ≤ k) : n.log2 + 1 ≤ k := by
  rcases Nat.eq_zero_or_pos n with z | z
  · subst z; simpa using hk
  · exact (Nat.log2_lt (by omega)).mpr h
theorem sz_le {n : Nat} {q : Rat} (h : Sz n q) : sz q ≤ n := by
  have hn : 1 ≤ n := by
    rcases Nat.eq_zero_or_pos n with z | z
    · subst z; have := h.2; have := den_pos q; omega
    · exact z
  have h1 := log_le h.1 hn
  have h2 := log_le h.2 hn
  unfold sz; omega
theorem sz_addL (p q : Rat) : sz (p + q) ≤ sz p + sz q + 1 := sz_le (sz_add (sz_Sz p) (sz_Sz q))
theorem sz_0 : sz 0 = 1 := rfl
def SQ (p q : Rat) : Prop := sz p + sz q ≤ 80000000
theorem mok {p q : Int} {a b : Nat} (hp : p.natAbs < 2 ^ a) (hq : q.natAbs < 2 ^ b) (h : a + b ≤ 90000000) : mulOk p q = true := mulOk_of hp hq h
theorem nabs_lt {k n : Nat} (h : k < 2 ^ n) : ((k : Nat) : Int).natAbs < 2 ^ n := by rw [Int.natAbs_natCast]; exact h
theorem den_mul (p q : Rat) : ((p.den : Int) * (q.den : Int)) ≠ 0 := by
  have d1 := den_pos p
  have d2 := den_pos q
  exact Int.mul_ne_zero (by omega) (by omega)
section
variable {p q : Rat}
theorem mk1 (h : SQ p q) : mulOk p.num (q.den : Int) = true := mok (sz_Sz p).1 (nabs_lt (sz_Sz q).2) (by unfold SQ at h; omega)
theorem mk2 (h : SQ p q) : mulOk q.num (p.den : Int) = true := mok (sz_Sz q).1 (nabs_lt (sz_Sz p).2) (by unfold SQ at h; omega)
theorem mk3 (h : SQ p q) : mulOk (p.den : Int) (q.den : Int) = true := mok (nabs_lt (sz_Sz p).2) (nabs_lt (sz_Sz q).2) (by unfold SQ at h; omega)
theorem e_plus (h : SQ p q) : fn_plus [fq p, fq q] = .ok (fq (p + q)) .ff .non := by
  unfold fn_plus runF fb_plus
  simp [fq, mk1 h, mk2 h, mk3 h]
  rw [e_fraction (den_mul p q), add_div]
  rfl
theorem e_is_less (h : SQ p q) : fn_is_less [fq p, fq q] = .ok (.bl (decide (p < q))) .ff .non := by
  unfold fn_is_less runF fb_is_less
  have e : decide (p < q) = decide (p.num * (q.den : Int) < q.num * (p.den : Int)) := decide_eq_decide.mpr (Rat.lt_iff p q)
  rw [e]
  simp [fq, mk1 h, mk2 h]
end
def sumQ (xs : List Rat) : Rat := xs.foldl (· + ·) 0
def tsz (xs : List Rat) : Nat := (xs.map fun x => sz x + 1).sum + 1
theorem sz_fold : ∀ (xs : List Rat) (a : Rat), sz (xs.foldl (· + ·) a) ≤ sz a + (xs.map fun x => sz x + 1).sum
  | [], a => by simp
  | x :: r, a => by
    have h1 := sz_fold r (a + x)
    have h2 := sz_addL a x
    simp only [List.foldl_cons, List.map_cons, List.sum_cons]
    omega
theorem sz_sumL (xs : List Rat) : sz (sumQ xs) ≤ tsz xs := by
  have := sz_fold xs 0
  rw [sz_0] at this
  unfold sumQ tsz; omega
theorem tsz_le {xs : List Rat} {n : Nat} (h : ∀ x ∈ xs, sz x ≤ n) : tsz xs ≤ xs.length * (n + 1) + 1 := by
  unfold tsz
  induction xs with
  | nil => simp
  | cons x r ih =>
    have h1 := ih fun y hy => h y (List.mem_cons_of_mem _ hy)
    have h2 := h x (by simp)
    simp only [List.map_cons, List.sum_cons, List.length_cons, Nat.succ_mul]
    omega
theorem total_loop : ∀ {xs : List Rat} {a : Rat} {s t : Slot}, sz a + (xs.map fun x => sz x + 1).sum ≤ 80000000 →
    ∃ t', mForL (gN 2) (mSet 1 (mCallN 2 none fn_plus (xV (mVar 1) (xV (mVar 2) (xNil))))) (xs.map fq) [s, .fz (fq a), t] = .ok .nx [s, .fz (fq (xs.foldl (· + ·) a)), t']
  | [], a, s, t, _ => ⟨t, rfl⟩
  | x :: r, a, s, t, h => by
    simp only [List.map_cons, List.sum_cons] at h
    have h1 := sz_addL a x
    obtain ⟨t', e⟩ := total_loop (xs := r) (a := a + x) (s := s) (t := .fz (fq x)) (by omega)
    refine ⟨t', ?_⟩
    rw [List.map_cons, forL_cons]
    simp -implicitDefEqProofs [e_plus (p := a) (q := x) (by unfold SQ; omega), e]
theorem e_total {xs : List Rat} (h : tsz xs ≤ 80000000) : fn_total [eL fq xs] = .ok (fq (sumQ xs)) .ff .non := by
  obtain ⟨t', e⟩ := total_loop (s := .fz (eL fq xs)) (t := .un) (xs := xs) (a := 0) (by rw [sz_0]; unfold tsz at h; omega)
  unfold fn_total runF fb_total
  unfold eL at e ⊢
  have e0 : fq 0 = .tup [.int 0, .int 1] := rfl
  rw [e0] at e
  simp -implicitDefEqProofs [e, sumQ]
theorem lawf_loop {u v : Slot} : ∀ (n a b : Nat), b < n → mWhN (mTest (mBin dGt (mVar 3) (M.pure (.int 0)))) (mPar 2 3 (mCons (mVar 3) (mCons (mBin dMod (mVar 2) (mVar 3)) (mNil)))) n [u, v, .fz (.int a), .fz (.int b)] = .ok .nx [u, v, .fz (.int (Nat.gcd a b : Nat)), .fz (.int 0)]
  | 0, a, b, h => by omega
  | n + 1, a, 0, h => by
    unfold mWhN
    simp
  | n + 1, a, b + 1, h => by
    unfold mWhN
    have e : ((a : Int).fmod ((b + 1 : Nat) : Int)) = ((a % (b + 1) : Nat) : Int) := by
      rw [Int.fmod_eq_emod_of_nonneg _ (by omega)]; rfl
    have hb : ((b + 1 : Nat) : Int) ≠ 0 := by omega
    have hb1 : (0 : Int) < ((b + 1 : Nat) : Int) := by omega
    have ih := lawf_loop (u := u) (v := v) n (b + 1) (a % (b + 1)) (by have := Nat.mod_lt a (show 0 < b + 1 by omega); omega)
    have hz : decide ((0 : Int) < ((b + 1 : Nat) : Int)) = true := decide_eq_true hb1
    simp only [bind_ap, test_ap, bin_ap, var_ap, List.getElem?_cons_succ, List.getElem?_cons_zero, ok_bnd, pure_ap, opt_some, dGt_i, hz, asBl_bl, par_ap, cons_ap, nil_ap, dMod_i, modOk_of hb, if_true, List.set_cons_zero, List.set_cons_succ, e]
    rw [ih]
    congr 6
    rw [Nat.gcd_comm a (b + 1), Nat.gcd_rec (b + 1) a, Nat.gcd_comm]
theorem e__law_fraction {a b : Int} (hb : 0 < b) : fn__law_fraction [.int a, .int b] = .ok (fq (Rat.divInt a b)) .ff .non := by
  have hg : 0 < Nat.gcd a.natAbs b.natAbs := Nat.gcd_pos_of_pos_right _ (by omega)
  have h := lawf_loop (u := .fz (.int a)) (v := .fz (.int b)) (b.natAbs + 1) a.natAbs b.natAbs (by omega)
  have hw := mWh_eq (t := mTest (mBin dGt (mVar 3) (M.pure (.int 0)))) (b := mPar 2 3 (mCons (mVar 3) (mCons (mBin dMod (mVar 2) (mVar 3)) (mNil)))) (n := b.natAbs + 1) (ρ := [.fz (.int a), .fz (.int b), .fz (.int (a.natAbs : Nat)), .fz (.int (b.natAbs : Nat))]) (by rw [h]; intro z; cases z)
  rw [h, show ((b.natAbs : Nat) : Int) = b by omega] at hw
  rw [← frac_pair (a := a) (by omega) ((Nat.gcd a.natAbs b.natAbs : Nat) : Int) (by rw [if_neg (by omega)])]
  have hd : ∀ x : Int, divOk x ((Nat.gcd a.natAbs b.natAbs : Nat) : Int) = true := fun x => divOk_of (by omega)
  unfold fn__law_fraction runF fb__law_fraction
  simp [hw, hd]
section
variable {p q : Rat}
end
structure Stm where
  c : Int
  m : Int
  c0 : 0 ≤ c
  m0 : 0 ≤ m
  m1 : m < 2 ^ 40
def eStm (s : Stm) : D := .lst [.int s.c, .int s.m]
instance : Inhabited Stm := ⟨⟨0, 0, by decide, by decide, by decide⟩⟩
def mixed (m : Int) : Int := (m * 48271 + 12345).fmod 2147483647
theorem mixed_b (m : Int) : 0 ≤ mixed m ∧ mixed m < 2147483647 := by
  unfold mixed
  rw [Int.fmod_eq_emod_of_nonneg _ (by decide)]
  omega
def t__law_take (s : Stm) (most : Int) : Int × Stm :=
  if h : s.c = 0 then (((mixed s.m * mixed s.m).fmod 2147483629).fmod most, ⟨0, mixed s.m, by decide, (mixed_b s.m).1, by have := (mixed_b s.m).2; omega⟩)
  else if h2 : 0 < most then (s.c.fmod most, ⟨s.c.fdiv most, s.m, by rw [Int.fdiv_eq_ediv_of_nonneg _ (by omega)]; exact Int.ediv_nonneg s.c0 (by omega), s.m0, s.m1⟩)
  else (0, s)
theorem e__law_take {s : Stm} {most : Int} (h0 : 0 < most) : fn__law_take [eStm s, .int most] = .ok (.int (t__law_take s most).1) .ff (eStm (t__law_take s most).2) := by
  obtain ⟨c, m, hc, hm0, hm1⟩ := s
  have hn : most ≠ 0 := by omega
  unfold fn__law_take runF fb__law_take t__law_take eStm
  by_cases z : c = 0
  · subst z
    have k1 : mulOk m 48271 = true := mok (a := 40) (b := 20) (by omega) (by decide) (by decide)
    have k2 : mulOk (mixed m) (mixed m) = true := by
      have := mixed_b m
      exact mok (a := 40) (b := 40) (by omega) (by omega) (by decide)
    have k3 := k2
    unfold mixed at k3
    simp [k1, k3, hn, mixed]
  · have k1 : divOk c most = true := divOk_of hn
    simp [z, k1, hn, h0]
theorem take_b {s : Stm} {most : Int} (h0 : 0 < most) : 0 ≤ (t__law_take s most).1 ∧ (t__law_take s most).1 < most := by
  have hn : most ≠ 0 := by omega
  unfold t__law_take
  split
  · rw [Int.fmod_eq_emod_of_nonneg _ (show (0 : Int) ≤ most by omega)]; exact ⟨Int.emod_nonneg _ hn, Int.emod_lt_of_pos _ h0⟩
  · dsimp only
    rw [Int.fmod_eq_emod_of_nonneg _ (show (0 : Int) ≤ most by omega)]; exact ⟨Int.emod_nonneg _ hn, Int.emod_lt_of_pos _ h0⟩
theorem sq_b {k : Int} (h0 : 0 ≤ k) (h1 : k < 1000) : 0 ≤ k * k ∧ k * k ≤ 1000000 :=
  ⟨Int.mul_nonneg h0 h0, by
    have : k * k ≤ 1000 * 1000 := Int.mul_le_mul (by omega) (by omega) h0 (by omega)
    omega⟩
def t__law_stream (ns : List Int) (k : Int) : Stm :=
  if h : 0 ≤ k ∧ k < 1000 then
    (if k < ns.length then ⟨if ix ns k < 1000000000000000000 then 0 else ix ns k, (ix ns k).fmod 2147483629 + k * k + 1, by split <;> omega, by
        rw [Int.fmod_eq_emod_of_nonneg _ (by decide)]
        have := sq_b h.1 h.2
        omega, by
        rw [Int.fmod_eq_emod_of_nonneg _ (by decide)]
        have := sq_b h.1 h.2
        omega⟩
    else ⟨0, k * k + 11, by decide, by have := sq_b h.1 h.2; omega, by have := sq_b h.1 h.2; omega⟩)
  else default
theorem e__law_stream {ns : List Int} {k : Int} (h : 0 ≤ k ∧ k < 1000) : fn__law_stream [.scr ns, .int k] = .ok (eStm (t__law_stream ns k)) .tt .non := by
  have k1 : mulOk k k = true := mok (a := 20) (b := 20) (by omega) (by omega) (by decide)
  unfold fn__law_stream runF fb__law_stream t__law_stream
  rw [dif_pos h]
  by_cases c : k < ns.length
  · have e : L2.atI ns k = some (ix ns k) := by
      have := at_of (F := (id : Int → Int)) (xs := ns) (i := k) ⟨by omega, c⟩
      rw [List.map_id] at this
      exact this
    have hp : powOk 10 18 = true := by decide
    rw [if_pos c]
    by_cases hx : ix ns k < 1000000000000000000
    · simp [c, e, k1, hp, hx, eStm]
    · simp [c, e, k1, hp, hx, eStm]
  · rw [if_neg c]
    simp [c, k1, eStm]
end Std
namespace Net
open PySem PySem.Spec PyProof.Rows L2 Dt
noncomputable def fb_ask : M Fl :=
  mSeq (mIf (mNot (mTest (mVar 0))) (M.bind (mVar 1) fun _ => M.raise "NoNet") mNx)
    mNx
noncomputable def fn_ask : List D → Rf := runF none 2 fb_ask
noncomputable def t_ask (v_good : Bool) (v_words : Str) : Unit :=
  cond (!v_good) default ()
def s_ask (v_good : Bool) (v_words : Str) : Prop :=
  ((!v_good) = true → False)
theorem e_ask {v_good : Bool} {v_words : Str} (h : s_ask v_good v_words) : fn_ask [D.bl v_good, D.str v_words] = .ok (eN (t_ask v_good v_words)) .ff .non := by
  refine runE (fb := fb_ask) (x := t_ask v_good v_words) ?_
  show JE (fb_ask [.fz (D.bl v_good), .fz (D.str v_words)]) _
  delta fb_ask t_ask
  delta s_ask at h
  exact sqIf (nt (tst (vf 0 rfl))) (fun hc => bdh (h hc) (fun h => h.elim)) (fun _ => sq rfl (⟨_, rfl⟩))
noncomputable def fb_ask_fraction : M Fl :=
  mSeq (mAsg (gT 2 (gsC (gN 2) (gsC (gN 3) gsN))) (mVar 0))
    (mSeq (mDrop (mFz (mCallN 2 none fn_ask (xV (mAndV (mChain dLe dLe (M.pure (.int 0)) (mVar 2) (M.pure (.int 1000))) (mAndV (mChain dLe dLe (M.pure (.int 1)) (mVar 3) (M.pure (.int 1000))) (mBin dEq (mFz (mCallN 2 none Std.fn_common (xV (mVar 2) (xV (mVar 3) xNil)))) (M.pure (.int 1))))) (xV (M.pure (.str "fractions in least terms")) xNil)))))
    (mSeq (mDrop (mFz (mCallN 2 none fn_ask (xV (mOrV (mBin dGt (mVar 2) (M.pure (.int 0))) (mNotV (mVar 1))) (xV (M.pure (.str "above nought")) xNil)))))
    mNx))
noncomputable def fn_ask_fraction : List D → Rf := runF none 4 fb_ask_fraction
noncomputable def fb_ask_line : M Fl :=
  mSeq (mAsg (gT 4 (gsC (gN 2) (gsC (gN 3) (gsC (gN 4) (gsC (gN 5) gsN))))) (mVar 0))
    (mSeq (mDrop (mFz (mCallN 2 none fn_ask (xV (mChain dLe dLe (M.pure (.int 1)) (mCall dLen (mCons (mVar 2) mNil)) (M.pure (.int 6))) (xV (M.pure (.str "one to six speeds")) xNil)))))
    (mSeq (mFor (mIter (mVar 2)) (gN 1) (mSeq (mDrop (mFz (mCallN 2 none fn_ask_fraction (xV (mVar 1) (xV (M.pure (.bl true)) xNil)))))
    (mSeq (mKill [1]) mNx)))
    (mSeq (mFor (mZip (mCons (mFz (mSl (mVar 2) (mPart none) (mPart (some (mUn dNeg (M.pure (.int 1))))))) (mCons (mFz (mSl (mVar 2) (mPart (some (M.pure (.int 1)))) (mPart none))) mNil))) (gT 2 (gsC (gN 1) (gsC (gN 6) gsN))) (mSeq (mDrop (mFz (mCallN 2 none fn_ask (xV (mNotV (mFz (mCallN 2 none Std.fn_is_less (xV (mVar 6) (xV (mVar 1) xNil))))) (xV (M.pure (.str "speeds never fall")) xNil)))))
    (mSeq (mKill [1, 6]) mNx)))
    (mSeq (mDrop (mFz (mCallN 2 none fn_ask_fraction (xV (mVar 3) (xV (M.pure (.bl false)) xNil)))))
    (mSeq (mDrop (mFz (mCallN 2 none fn_ask (xV (mChain dLe dLe (M.pure (.int 0)) (mVar 4) (M.pure (.int 9))) (xV (M.pure (.str "a room is 0 to 9")) xNil)))))
    (mSeq (mIf (mTest (mBin dEq (mVar 4) (M.pure (.int 0)))) (mSeq (mDrop (mFz (mCallN 2 none fn_ask (xV (mBin dEq (mVar 5) (M.pure (.str ""))) (xV (M.pure (.str "no rule without a room")) xNil)))))
    mNx) (mSeq (mDrop (mFz (mCallN 2 none fn_ask (xV (mBin (dIn false) (mVar 5) (M.pure (.tup [(.str "stay"), (.str "lose"), (.str "skip")]))) (xV (M.pure (.str "a rule is stay, lose or skip")) xNil)))))
    mNx))
    mNx))))))
noncomputable def fn_ask_line : List D → Rf := runF none 7 fb_ask_line
noncomputable def fb_ask_stand : M Fl :=
  mSeq (mAsg (gT 3 (gsC (gN 4) (gsC (gN 5) (gsC (gN 6) gsN)))) (mVar 0))
    (mSeq (mDrop (mFz (mCallN 2 none fn_ask (xV (mChain dLe dLt (M.pure (.int 0)) (mVar 4) (mVar 1)) (xV (M.pure (.str "a line that's there")) xNil)))))
    (mSeq (mDrop (mFz (mCallN 2 none fn_ask_fraction (xV (mVar 5) (xV (M.pure (.bl true)) xNil)))))
    (mSeq (mSet 3 (mOf (mUn dNeg (M.pure (.int 1)))))
    (mSeq (mFor (mIter (mVar 6)) (gT 2 (gsC (gN 7) (gsC (gN 8) gsN))) (mSeq (mDrop (mFz (mCallN 2 none fn_ask (xV (mChain dLt dLt (mVar 3) (mVar 7) (mVar 2)) (xV (M.pure (.str "ways to stands, rising")) xNil)))))
    (mSeq (mDrop (mFz (mCallN 2 none fn_ask_fraction (xV (mVar 8) (xV (M.pure (.bl true)) xNil)))))
    (mSeq (mSet 3 (mOf (mVar 7)))
    (mSeq (mKill [7, 8]) mNx)))))
    (mSeq (mDrop (mFz (mCallN 2 none fn_ask (xV (mNotV (mFz (mCallN 2 none Std.fn_is_less (xV (M.pure (.tup [(.int 1), (.int 1)])) (xV (mFz (mCallN 1 none Std.fn_total (xV (mFz (mLc [7, 8] (mIter (mVar 6)) (gT 2 (gsC (gN 7) (gsC (gN 8) gsN))) (M.pure true) (mVar 8))) xNil))) xNil))))) (xV (M.pure (.str "shares come to one at most")) xNil)))))
    mNx)))))
noncomputable def fn_ask_stand : List D → Rf := runF none 9 fb_ask_stand
noncomputable def fb_ask_rates : M Fl :=
  mSeq (mFor (mIter (mVar 1)) (gN 2) (mSeq (mDrop (mFz (mCallN 2 none fn_ask_fraction (xV (mVar 2) (xV (M.pure (.bl false)) xNil)))))
    (mSeq (mKill [2]) mNx)))
    (mSeq (mDrop (mFz (mCallN 2 none fn_ask (xV (mBin dNe (mFz (mLc [2] (mIter (mVar 1)) (gN 2) (mTest (mBin dNe (mVar 2) (M.pure (.tup [(.int 0), (.int 1)])))) (mVar 2))) (mFz (mLst mNil))) (xV (M.pure (.str "somebody comes")) xNil)))))
    (mSeq (mSet 3 (mLc [4] (mIter (mVar 0)) (gN 4) (M.pure true) (mBin dIx (mVar 4) (M.pure (.int 2)))))
    (mSeq (mFrz 3)
    (mSeq (mIf (mTest (mBin dEq (mCall dMaxL (mCons (mVar 3) mNil)) (M.pure (.int 0)))) (mSeq (mDrop (mFz (mCallN 2 none fn_ask (xV (mBin dEq (mFz (mLc [4] (mIter (mVar 0)) (gN 4) (mTest (mBin dNe (mBin dIx (mVar 4) (M.pure (.int 1))) (M.pure (.tup [(.int 0), (.int 1)])))) (mVar 4))) (mFz (mLst mNil))) (xV (M.pure (.str "hands that are no more behind the last speed")) xNil)))))
    mNx) (mSeq (mDrop (mFz (mCallN 2 none fn_ask (xV (mBin dGt (mCall dMinL (mCons (mVar 3) mNil)) (M.pure (.int 0))) (xV (M.pure (.str "each line has a room, or none")) xNil)))))
    mNx))
    mNx))))
noncomputable def fn_ask_rates : List D → Rf := runF none 5 fb_ask_rates
noncomputable def fb_ask_counts : M Fl :=
  mSeq (mDrop (mFz (mCallN 2 none fn_ask (xV (mAndV (mBin dGe (mCall dMinL (mCons (mVar 2) mNil)) (M.pure (.int 0))) (mChain dLe dLe (M.pure (.int 1)) (mCall dSum (mCons (mVar 2) mNil)) (M.pure (.int 8)))) (xV (M.pure (.str "one to eight comers")) xNil)))))
    (mSeq (mDrop (mFz (mCallN 2 none fn_ask (xV (mBin dEq (mFz (mLc [5] (mIter (mVar 0)) (gN 5) (mTest (mBin dEq (mBin dIx (mVar 5) (M.pure (.int 3))) (M.pure (.str "lose")))) (mVar 5))) (mFz (mLst mNil))) (xV (M.pure (.str "nobody is lost")) xNil)))))
    (mSeq (mFor (mIter (mVar 1)) (gN 3) (mSeq (mDrop (mFz (mCallN 2 none fn_ask (xV (mBin dEq (mFz (mCallN 1 none Std.fn_total (xV (mFz (mLc [8, 9] (mIter (mBin dIx (mVar 3) (M.pure (.int 2)))) (gT 2 (gsC (gN 8) (gsC (gN 9) gsN))) (M.pure true) (mVar 9))) xNil))) (M.pure (.tup [(.int 1), (.int 1)]))) (xV (M.pure (.str "nobody leaves")) xNil)))))
    (mSeq (mKill [3]) mNx)))
    (mSeq (mFor (mEnum (mCons (mVar 0) mNil)) (gT 2 (gsC (gN 4) (gsC (gN 5) gsN))) (mSeq (mSet 6 (mOf (mCall dSum (mCons (mFz (mLc [7, 3] (mZip (mCons (mVar 2) (mCons (mVar 1) mNil))) (gT 2 (gsC (gN 7) (gsC (gN 3) gsN))) (mTest (mBin dEq (mBin dIx (mVar 3) (M.pure (.int 0))) (mVar 4))) (mVar 7))) mNil))))
    (mSeq (mDrop (mFz (mCallN 2 none fn_ask (xV (mOrV (mBin dEq (mBin dIx (mVar 5) (M.pure (.int 2))) (M.pure (.int 0))) (mBin dLe (mVar 6) (mBin dIx (mVar 5) (M.pure (.int 2))))) (xV (M.pure (.str "no more begin than there is room")) xNil)))))
    (mSeq (mKill [4, 5, 6]) mNx))))
    mNx)))
noncomputable def fn_ask_counts : List D → Rf := runF none 10 fb_ask_counts
noncomputable def fb_ask_net : M Fl :=
  mSeq (mDrop (mFz (mCallN 2 none fn_ask (xV (mAndV (mChain dLe dLe (M.pure (.int 1)) (mCall dLen (mCons (mVar 0) mNil)) (M.pure (.int 8))) (mChain dLe dLe (M.pure (.int 1)) (mCall dLen (mCons (mVar 1) mNil)) (M.pure (.int 12)))) (xV (M.pure (.str "lines and stands")) xNil)))))
    (mSeq (mFor (mIter (mVar 0)) (gN 3) (mSeq (mDrop (mFz (mCallN 1 none fn_ask_line (xV (mVar 3) xNil))))
    (mSeq (mKill [3]) mNx)))
    (mSeq (mFor (mIter (mVar 1)) (gN 4) (mSeq (mDrop (mFz (mCallN 3 none fn_ask_stand (xV (mVar 4) (xV (mCall dLen (mCons (mVar 0) mNil)) (xV (mCall dLen (mCons (mVar 1) mNil)) xNil))))))
    (mSeq (mKill [4]) mNx)))
    (mSeq (mSet 5 (mLc [4] (mIter (mVar 1)) (gN 4) (M.pure true) (mBin dIx (mVar 4) (M.pure (.int 0)))))
    (mSeq (mFrz 5)
    (mSeq (mDrop (mFz (mCallN 2 none fn_ask (xV (mBin dEq (mFz (mLc [3] (mRange1 (mCons (mCall dLen (mCons (mVar 0) mNil)) mNil)) (gN 3) (mTest (mBin (dIn true) (mVar 3) (mVar 5))) (mVar 3))) (mFz (mLst mNil))) (xV (M.pure (.str "each line has a stand")) xNil)))))
    (mSeq (mAsg (gT 2 (gsC (gN 6) (gsC (gN 7) gsN))) (mVar 2))
    (mSeq (mDrop (mFz (mCallN 2 none fn_ask (xV (mAndV (mBin (dIn false) (mVar 6) (mTup (mCons (M.pure (.str "open")) (mCons (M.pure (.str "shut")) mNil)))) (mBin dEq (mCall dLen (mCons (mVar 7) mNil)) (mCall dLen (mCons (mVar 1) mNil)))) (xV (M.pure (.str "open or shut, a number a stand")) xNil)))))
    (mSeq (mIf (mTest (mBin dEq (mVar 6) (M.pure (.str "open")))) (mSeq (mDrop (mFz (mCallN 2 none fn_ask_rates (xV (mVar 0) (xV (mVar 7) xNil)))))
    mNx) (mSeq (mDrop (mFz (mCallN 3 none fn_ask_counts (xV (mVar 0) (xV (mVar 1) (xV (mVar 7) xNil))))))
    mNx))
    mNx))))))))
noncomputable def fn_ask_net : List D → Rf := runF none 8 fb_ask_net
noncomputable def fb_made_net : M Fl :=
  mSeq (mDrop (mFz (mCallN 3 none fn_ask_net (xV (mVar 0) (xV (mVar 1) (xV (mVar 2) xNil))))))
    (mSeq (mSet 3 (mLc [4, 5, 6, 7] (mIter (mVar 0)) (gT 4 (gsC (gN 4) (gsC (gN 5) (gsC (gN 6) (gsC (gN 7) gsN))))) (M.pure true) (mTup (mCons (mFz (mListOf (mCons (mVar 4) mNil))) (mCons (mVar 5) (mCons (mVar 6) (mCons (mVar 7) mNil)))))))
    (mSeq (mFrz 3)
    (mRet (mOf (mTup (mCons (mVar 3) (mCons (mFz (mLc [8, 9, 10] (mIter (mVar 1)) (gT 3 (gsC (gN 8) (gsC (gN 9) (gsC (gN 10) gsN)))) (M.pure true) (mTup (mCons (mVar 8) (mCons (mVar 9) (mCons (mFz (mListOf (mCons (mVar 10) mNil))) mNil)))))) (mCons (mTup (mCons (mBin dIx (mVar 2) (M.pure (.int 0))) (mCons (mFz (mListOf (mCons (mBin dIx (mVar 2) (M.pure (.int 1))) mNil))) mNil))) mNil))))))))
noncomputable def fn_made_net : List D → Rf := runF none 11 fb_made_net
end Net
namespace Dt
open PySem L2
@[simp] theorem bd_eq {α β : Sort _} (v : α) (b : α → β) : bd v b = b v := rfl
inductive All2 {α β : Type} (R : α → β → Prop) : List α → List β → Prop
  | nil : All2 R [] []
  | cons {x : α} {y : β} {xs : List α} {ys : List β} : R x y → All2 R xs ys → All2 R (x :: xs) (y :: ys)
theorem All2.len {α β : Type} {R : α → β → Prop} {xs : List α} {ys : List β} (h : All2 R xs ys) : xs.length = ys.length := by
  induction h with
  | nil => rfl
  | cons _ _ ih => simp [ih]
theorem All2.right {α β : Type} {P : β → Prop} {R : α → β → Prop} {xs : List α} {ys : List β} (h : All2 R xs ys) (k : ∀ x ∈ xs, ∀ y, R x y → P y) : ∀ y ∈ ys, P y := by
  induction h with
  | nil => intro y hy; cases hy
  | cons r t ih =>
    intro y hy
    rcases List.mem_cons.mp hy with rfl | hy
    · exact k _ (by simp) _ r
    · exact ih (fun x hx => k x (List.mem_cons_of_mem _ hx)) y hy
section
variable {σ α β ρ : Type}
theorem sfl_of {f : σ → α → σ} {S : σ → α → Prop} (I : Nat → σ → Prop) : ∀ (xs : List α) (s : σ) (k : Nat), I k s → (∀ j (hj : j < xs.length) s, I (k + j) s → S s xs[j] ∧ I (k + j + 1) (f s xs[j])) → sfl f S xs s ∧ I (k + xs.length) (xs.foldl f s)
  | [], s, k, h, _ => ⟨trivial, h⟩
  | x :: r, s, k, h, hs => by
    obtain ⟨h1, h2⟩ := hs 0 (by simp) s h
    obtain ⟨h3, h4⟩ := sfl_of I r (f s x) (k + 1) h2 (fun j hj s hI => by
      have := hs (j + 1) (by simpa using hj) s (by rw [show k + (j + 1) = k + 1 + j by omega]; exact hI)
      rw [show k + (j + 1) + 1 = k + 1 + j + 1 by omega] at this
      exact this)
    refine ⟨⟨h1, h3⟩, ?_⟩
    rw [show k + (x :: r).length = k + 1 + r.length by simp; omega]
    exact h4
theorem sfl_of0 {f : σ → α → σ} {S : σ → α → Prop} (I : Nat → σ → Prop) (xs : List α) (s : σ) (h : I 0 s) (hs : ∀ j (hj : j < xs.length) s, I j s → S s xs[j] ∧ I (j + 1) (f s xs[j])) : sfl f S xs s ∧ I xs.length (xs.foldl f s) := by
  have := sfl_of I xs s 0 h (fun j hj s hI => by rw [Nat.zero_add] at hI ⊢; exact hs j hj s hI)
  rw [Nat.zero_add] at this; exact this
theorem flw_nx {f : σ → α → Fw σ ρ} {S : σ → α → Prop} (I : Nat → σ → Prop) : ∀ (xs : List α) (s : σ) (k : Nat), I k s → (∀ j (hj : j < xs.length) s, I (k + j) s → S s xs[j] ∧ ∃ s', f s xs[j] = .nx s' ∧ I (k + j + 1) s') → sflw f S xs s ∧ ∃ s', flw f xs s = .nx s' ∧ I (k + xs.length) s'
  | [], s, k, h, _ => ⟨trivial, s, rfl, h⟩
  | x :: r, s, k, h, hs => by
    obtain ⟨h1, s', h2, h3⟩ := hs 0 (by simp) s h
    obtain ⟨h4, s2, h5, h6⟩ := flw_nx I r s' (k + 1) h3 (fun j hj s hI => by
      have := hs (j + 1) (by simpa using hj) s (by rw [show k + (j + 1) = k + 1 + j by omega]; exact hI)
      rw [show k + (j + 1) + 1 = k + 1 + j + 1 by omega] at this
      exact this)
    have h2' : f s x = .nx s' := h2
    refine ⟨⟨h1, by rw [h2']; exact h4⟩, s2, ?_, ?_⟩
    · unfold flw; rw [h2']; exact h5
    · rw [show k + (x :: r).length = k + 1 + r.length by simp; omega]; exact h6
theorem flw_prop {f : σ → α → Fw σ ρ} {S : σ → α → Prop} (I : σ → Prop) (xs : List α) (s : σ) (h : I s) (hs : ∀ x ∈ xs, ∀ s, I s → S s x ∧ ∃ s', f s x = .nx s' ∧ I s') : sflw f S xs s ∧ ∃ s', flw f xs s = .nx s' ∧ I s' :=
  flw_nx (fun _ s => I s) xs s 0 h (fun j hj s hI => hs _ (List.getElem_mem hj) s hI)
theorem lcS_map {e : α → σ → β × σ} {S : α → σ → Prop} (R : α → β → Prop) : ∀ (xs : List α) (s : σ),
    (∀ x ∈ xs, ∀ s, S x s ∧ R x (e x s).1) → slcS (fun _ s => (true, s)) e S xs s ∧ All2 R xs (lcS (fun _ s => (true, s)) e xs s).1
  | [], s, _ => ⟨trivial, .nil⟩
  | x :: r, s, hs => by
    obtain ⟨h1, h2⟩ := hs x (by simp) s
    obtain ⟨h3, h4⟩ := lcS_map (e := e) (S := S) R r (e x s).2 (fun y hy => hs y (List.mem_cons_of_mem _ hy))
    exact ⟨⟨h1, fun _ => h3, fun z => by cases z⟩, .cons h2 h4⟩
end
theorem rangeI_len (lo hi : Int) : (rangeI lo hi).length = (hi - lo).toNat := by unfold rangeI; rw [List.length_map, List.length_range]
theorem rangeI_get {lo hi : Int} {k : Nat} (h : k < (rangeI lo hi).length) : (rangeI lo hi)[k] = lo + (k : Int) := by
  have : (rangeI lo hi)[k]? = some (lo + (k : Int)) := by
    have h' := h
    rw [rangeI_len] at h'
    unfold rangeI
    rw [List.getElem?_map, List.getElem?_range h']; rfl
  rw [List.getElem?_eq_getElem h] at this
  injection this
theorem mem_rangeI {lo hi x : Int} : x ∈ rangeI lo hi ↔ lo ≤ x ∧ x < hi := by
  unfold rangeI
  rw [List.mem_map]
  constructor
  · rintro ⟨k, hk, rfl⟩
    rw [List.mem_range] at hk
    omega
  · intro h
    exact ⟨(x - lo).toNat, by rw [List.mem_range]; omega, by omega⟩
theorem ix_nat {α : Type} [Inhabited α] {xs : List α} {i : Int} (h0 : 0 ≤ i) (h1 : i < xs.length) : ∃ h : i.toNat < xs.length, ix xs i = xs[i.toNat] := by
  have h : i.toNat < xs.length := by omega
  refine ⟨h, ?_⟩
  unfold ix ixN'
  rw [if_neg (by omega), List.getD_eq_getElem?_getD, List.getElem?_eq_getElem h]; rfl
theorem ix_mem {α : Type} [Inhabited α] {xs : List α} {i : Int} (h : InB xs.length i) : ix xs i ∈ xs := by
  obtain ⟨_, h2⟩ := ixN_of h
  unfold ix
  rw [List.getD_eq_getElem?_getD, List.getElem?_eq_getElem h2]
  exact List.getElem_mem h2
theorem inB_nat {n : Nat} {i : Int} (h0 : 0 ≤ i) (h1 : i < n) : InB n i := ⟨by omega, h1⟩
theorem inB_last {n : Nat} (h : 0 < n) : InB n (-1) := ⟨by omega, by omega⟩
theorem cut_butlast {α : Type} {xs : List α} : cut xs none (some (-1)) = xs.dropLast := by
  have e : HT.sIx xs.length xs.length (some (-1)) = xs.length - 1 := by
    show (if (-1 : Int) < 0 then (-1 + (xs.length : Int)).toNat else min (-1 : Int).toNat xs.length) = _
    rw [if_pos (by decide)]; omega
  unfold cut
  rw [e]
  show (xs.drop 0).take (xs.length - 1 - 0) = _
  rw [List.drop_zero, List.dropLast_eq_take]; rfl
theorem cut_tail {α : Type} {xs : List α} : cut xs (some 1) none = xs.drop 1 := by
  have e : HT.sIx xs.length 0 (some 1) = min 1 xs.length := by
    show (if (1 : Int) < 0 then (1 + (xs.length : Int)).toNat else min (1 : Int).toNat xs.length) = _
    rw [if_neg (by decide)]; rfl
  unfold cut
  rw [e]
  show (xs.drop _).take (xs.length - _) = _
  rw [List.take_of_length_le (by rw [List.length_drop]; exact Nat.le_refl _)]
  cases xs with
  | nil => rfl
  | cons x r =>
    rw [show min 1 (x :: r).length = 1 by simp]
theorem maxL_mem {xs : List Int} (h : xs ≠ []) : maxL xs ∈ xs := by
  cases xs with
  | nil => exact absurd rfl h
  | cons n ns =>
    rcases (foldl_max n ns).1 with q | q
    · show ns.foldl max n ∈ _; rw [q]; simp
    · exact List.mem_cons_of_mem _ q
theorem le_maxL {xs : List Int} {x : Int} (h : x ∈ xs) : x ≤ maxL xs := by
  cases xs with
  | nil => cases h
  | cons n ns =>
    rcases List.mem_cons.mp h with rfl | h
    · exact (foldl_max x ns).2.1
    · exact (foldl_max n ns).2.2 x h
theorem minL_mem {xs : List Int} (h : xs ≠ []) : minL xs ∈ xs := by
  cases xs with
  | nil => exact absurd rfl h
  | cons n ns =>
    rcases (foldl_min n ns).1 with q | q
    · show ns.foldl min n ∈ _; rw [q]; simp
    · exact List.mem_cons_of_mem _ q
theorem minL_le {xs : List Int} {x : Int} (h : x ∈ xs) : minL xs ≤ x := by
  cases xs with
  | nil => cases h
  | cons n ns =>
    rcases List.mem_cons.mp h with rfl | h
    · exact (foldl_min x ns).2.1
    · exact (foldl_min n ns).2.2 x h
end Dt
namespace Dt
section
variable {α β : Type} {P : β → Prop} {A B S1 S2 : Prop} {t t1 t2 : β} {c : Bool}
theorem hd_bd {v : α} {S : α → Prop} {b : α → β} (Q : α → Prop) (hq : Q v) (h : ∀ z, Q z → S z ∧ P (b z)) : bd v S ∧ P (bd v b) := h v hq
theorem hd_eq {v : α} {S : α → Prop} {b : α → β} (h : S v ∧ P (b v)) : bd v S ∧ P (bd v b) := h
theorem hd_and (a : A) (h : B ∧ P t) : (A ∧ B) ∧ P t := ⟨⟨a, h.1⟩, h.2⟩
theorem hd_cond (h1 : c = true → S1 ∧ P t1) (h2 : c = false → S2 ∧ P t2) : ((c = true → S1) ∧ (c = false → S2)) ∧ P (cond c t1 t2) := by
  cases c with
  | true => exact ⟨⟨fun _ => (h1 rfl).1, fun z => absurd z.symm Bool.false_ne_true⟩, (h1 rfl).2⟩
  | false => exact ⟨⟨fun z => absurd z Bool.false_ne_true, fun _ => (h2 rfl).1⟩, (h2 rfl).2⟩
theorem hd_fold {σ : Type} {f : σ → α → σ} {S : σ → α → Prop} {xs : List α} {s : σ} {S' : σ → Prop} {b : σ → β} (I : Nat → σ → Prop) (h0 : I 0 s) (hs : ∀ j (hj : j < xs.length) s, I j s → S s xs[j] ∧ I (j + 1) (f s xs[j])) (h : ∀ z, I xs.length z → S' z ∧ P (b z)) : (sfl f S xs s ∧ bd (xs.foldl f s) S') ∧ P (bd (xs.foldl f s) b) := by
  obtain ⟨h1, h2⟩ := sfl_of0 I xs s h0 hs
  exact ⟨⟨h1, (h _ h2).1⟩, (h _ h2).2⟩
theorem hd_flwT {σ ρ : Type} {f : σ → α → Fw σ ρ} {S : σ → α → Prop} {xs : List α} {s : σ} {kr : ρ → β} {kn : σ → β} (I : σ → Prop) (h0 : I s) (hs : ∀ x ∈ xs, ∀ s, I s → S s x ∧ ∃ s', f s x = .nx s' ∧ I s') (h : ∀ z, I z → P (kn z)) : sflw f S xs s ∧ P (fwc (flw f xs s) kr kn) := by
  obtain ⟨h1, z, h2, h3⟩ := flw_prop I xs s h0 hs
  rw [h2]
  exact ⟨h1, h z h3⟩
end
end Dt
namespace Net
open PySem L2 Dt Std
def SmQ (q : Rat) : Prop := 0 ≤ q.num ∧ q.num ≤ 1000 ∧ q.den ≤ 1000
end Net
namespace Raw
open L2 Dt
open PySem (Str)
open Std (sz)
open Net (fn_ask fn_ask_fraction fn_ask_line fn_ask_stand fn_ask_rates fn_ask_counts fn_ask_net fn_made_net)
abbrev P2 : Type := Int × Int
abbrev eP : P2 → D := eT2 D.int D.int
abbrev RWay : Type := Int × P2
abbrev eRWay : RWay → D := eT2 D.int eP
abbrev RLine : Type := List P2 × P2 × Int × Str
abbrev eRLine : RLine → D := eT4 (eL eP) eP D.int D.str
abbrev RStand : Type := Int × P2 × List RWay
abbrev eRStand : RStand → D := eT3 D.int eP (eL eRWay)
def JA (r : Rs Fl) (b : Bool) (ρ1 : Dt.Env) : Prop := (b = true → r = .ok .nx ρ1) ∧ (b = false → ∃ ρ', r = .rz "NoNet" ρ')
def JF (r : Rf) (b : Bool) : Prop := (b = true → r = .ok .non .ff .non) ∧ (b = false → r = .rz "NoNet")
section
variable {α σ : Type} {F : α → D} {f g k : M Fl} {ρ ρ1 ρ2 : Dt.Env} {b b1 b2 c : Bool} {r : Rs Fl} {n : Nat} {t : M Bool}
theorem ja_ok (h : r = .ok .nx ρ1) : JA r true ρ1 := ⟨fun _ => h, fun e => by cases e⟩
theorem ja_as (h : JA r b ρ1) (e : b = b1) : JA r b1 ρ1 := e ▸ h
theorem ja_sq (h : f ρ = .ok .nx ρ1) (h2 : JA (k ρ1) b ρ2) : JA (mSeq f k ρ) b ρ2 := by rw [sq_eq h]; exact h2
theorem ja_seq (h : JA (f ρ) b1 ρ1) (h2 : b1 = true → JA (k ρ1) b2 ρ2) : JA (mSeq f k ρ) (b1 && b2) ρ2 := by
  cases b1 with
  | true => rw [sq_eq (h.1 rfl)]; exact h2 rfl
  | false =>
    obtain ⟨ρ', e⟩ := h.2 rfl
    refine ⟨fun z => (by cases z), fun _ => ⟨ρ', ?_⟩⟩
    show M.bind f _ ρ = _
    exact bz e
theorem ja_call {g : List D → Rf} {ds : List D} {fx : M (List AV)} {avs : List AV} (h : fx ρ = .ok avs ρ) (hl : avs.length = n) (hs : setup ρ none avs = some ds) (hf : JF (g ds) b) : JA (mDrop (mFz (mCallN n none g fx)) ρ) b ρ := by
  have e0 : ∀ l : List AV, slotOf none l = none := fun l => by cases l <;> rfl
  refine ⟨fun e => sDrop (mfz (cN h hl hs (hf.1 e) (by unfold aft; rw [e0]))), fun e => ⟨ρ, ?_⟩⟩
  show M.bind (mFz _) _ ρ = _
  refine bz ?_
  show M.bind _ _ ρ = _
  exact bz (cZ h hl hs (hf.2 e))
theorem jf_run {fb : M Fl} {ds : List D} (h : JA (fb (initE none n ds)) b ρ1) : JF (runF none n fb ds) b := by
  refine ⟨fun e => ?_, fun e => ?_⟩
  · unfold runF; rw [h.1 e]; rfl
  · obtain ⟨ρ', q⟩ := h.2 e
    unfold runF; rw [q]
theorem ja_if (h : t ρ = .ok c ρ) (h1 : c = true → JA (f ρ) b1 ρ1) (h2 : c = false → JA (g ρ) b2 ρ1) : JA (mIf t f g ρ) (cond c b1 b2) ρ1 := by
  cases c with
  | true => rw [mIf_t h]; exact h1 rfl
  | false => rw [mIf_f h]; exact h2 rfl
def allS (step : σ → α → σ) (p : σ → α → Bool) : List α → σ → Bool
  | [], _ => true
  | x :: r, s => p s x && allS step p r (step s x)
theorem forL_ja {gg : D → Dt.Env → Option Dt.Env} {bd : M Fl} {ctx : σ → Dt.Env} {step : σ → α → σ} {p : σ → α → Bool} : ∀ (xs : List α) (s : σ), (∀ s x, x ∈ xs → ∃ ρ1, gg (F x) (ctx s) = some ρ1 ∧ JA (bd ρ1) (p s x) (ctx (step s x))) →
    JA (mForL gg bd (xs.map F) (ctx s)) (allS step p xs s) (ctx (xs.foldl step s))
  | [], s, _ => ja_ok rfl
  | x :: r, s, hb => by
    obtain ⟨ρ1, h1, h2⟩ := hb s x (by simp)
    rw [List.map_cons]
    unfold mForL
    rw [h1]; dsimp only
    unfold allS
    have ih := forL_ja r (step s x) fun s y hy => hb s y (List.mem_cons_of_mem _ hy)
    cases q : p s x with
    | true =>
      unfold M.bind
      rw [h2.1 q]
      exact ih
    | false =>
      obtain ⟨ρ', e⟩ := h2.2 q
      refine ⟨fun z => (by cases z), fun _ => ⟨ρ', bz e⟩⟩
theorem ja_for {fx : M (List D)} {gg : D → Dt.Env → Option Dt.Env} {bd : M Fl} {ctx : σ → Dt.Env} {step : σ → α → σ} {p : σ → α → Bool} {xs : List α} {s : σ} (hf : fx ρ = .ok (xs.map F) (ctx s))
    (hb : ∀ s x, x ∈ xs → ∃ ρ1, gg (F x) (ctx s) = some ρ1 ∧ JA (bd ρ1) (p s x) (ctx (step s x))) : JA (mFor fx gg bd ρ) (allS step p xs s) (ctx (xs.foldl step s)) := by
  unfold mFor M.bind
  rw [hf]
  exact forL_ja xs s hb
theorem allS_unit {p : α → Bool} : ∀ (xs : List α) (s : Unit), allS (fun s _ => s) (fun _ x => p x) xs s = xs.all p
  | [], _ => rfl
  | x :: r, s => by unfold allS; rw [allS_unit r, List.all_cons]
theorem ja_forU {fx : M (List D)} {gg : D → Dt.Env → Option Dt.Env} {bd : M Fl} {p : α → Bool} {xs : List α} (hf : fx ρ = .ok (xs.map F) ρ1)
    (hb : ∀ x, x ∈ xs → ∃ ρ2, gg (F x) ρ1 = some ρ2 ∧ JA (bd ρ2) (p x) ρ1) : JA (mFor fx gg bd ρ) (xs.all p) ρ1 := by
  have := ja_for (F := F) (ctx := fun _ : Unit => ρ1) (step := fun s _ => s) (p := fun _ x => p x) (xs := xs) (s := ()) (bd := bd) hf fun s x hx => hb x hx
  rw [allS_unit] at this
  exact this
end
theorem jf_ask {b : Bool} {w : Str} : JF (fn_ask [D.bl b, D.str w]) b := by
  cases b with
  | true => exact ⟨fun _ => Net.e_ask (v_good := true) (v_words := w) (by unfold Net.s_ask; intro h; cases h), fun e => by cases e⟩
  | false => exact ⟨fun e => (by cases e), fun _ => rfl⟩
def gF (p : P2) (an : Bool) : Bool := (((decide (0 ≤ p.1) && decide (p.1 ≤ 1000)) && ((decide (1 ≤ p.2) && decide (p.2 ≤ 1000)) && decide (((Nat.gcd p.1.toNat p.2.toNat : Nat) : Int) = 1))) && (decide (0 < p.1) || !an))
theorem jf_fraction {p : P2} {an : Bool} : JF (fn_ask_fraction [eP p, D.bl an]) (gF p an) := by
  refine jf_run (ρ1 := [.fz (eP p), .fz (D.bl an), zI p.1, zI p.2]) ?_
  show JA (Net.fb_ask_fraction [.fz (eP p), .fz (D.bl an), .un, .un]) _ _
  delta Net.fb_ask_fraction
  refine ja_sq (ρ1 := [.fz (eP p), .fz (D.bl an), zI p.1, zI p.2]) (sAsg (vf 0 rfl) rfl) ?_
  refine ja_seq (ja_call (x1 (anV (chn rfl (vf 2 rfl) rfl (fun _ => rfl) (fun _ => rfl)) (fun h1 => anV (chn rfl (vf 3 rfl) rfl (fun _ => rfl) (fun _ => rfl)) (fun h2 => b2 (mfz (cN (x1 (vf 2 rfl) (x1 (vf 3 rfl) x0)) rfl rfl (Std.e_common (a := p.1) (b := p.2) ?c) rfl)) rfl dEq_i))) (x1 rfl x0)) rfl rfl jf_ask) fun _ => ?_
  case c =>
    rw [Bool.and_eq_true, decide_eq_true_iff, decide_eq_true_iff] at h1 h2
    omega
  refine ja_as (ja_seq (ja_call (x1 (orV (b2 (vf 2 rfl) rfl rfl) (fun _ => ntV (vf 1 rfl))) (x1 rfl x0)) rfl rfl jf_ask) fun _ => ja_ok rfl) ?_
  rw [Bool.and_true]
theorem gF_q {p : P2} {an : Bool} (h : gF p an = true) : IsQ p ∧ 0 ≤ p.1 ∧ p.1 ≤ 1000 ∧ p.2 ≤ 1000 ∧ (an = true → 0 < p.1) := by
  unfold gF at h
  simp only [Bool.and_eq_true, decide_eq_true_iff, Bool.or_eq_true, Bool.not_eq_true'] at h
  obtain ⟨⟨⟨h1, h2⟩, ⟨h3, h4⟩, h5⟩, h6⟩ := h
  refine ⟨⟨by omega, ?_⟩, h1, h2, h4, fun e => ?_⟩
  · have a : p.1.natAbs = p.1.toNat := by omega
    have b : p.2.natAbs = p.2.toNat := by omega
    rw [a, b]; omega
  · rcases h6 with h6 | h6
    · exact h6
    · rw [e] at h6; cases h6
theorem mkq_num {p : P2} (h : IsQ p) : (mkq p).num = p.1 ∧ ((mkq p).den : Int) = p.2 := by
  have e := mkq_enc h
  unfold eT2 fq at e
  injection e with e
  injection e with e1 e2
  injection e2 with e2 _
  injection e1 with e1
  injection e2 with e2
  exact ⟨e1.symm, e2.symm⟩
theorem gF_sz {p : P2} {an : Bool} (h : gF p an = true) : sz (mkq p) ≤ 10 := by
  obtain ⟨q, a, b, c, _⟩ := gF_q h
  obtain ⟨n1, n2⟩ := mkq_num q
  refine Std.sz_le ⟨?_, ?_⟩
  · rw [n1]; omega
  · have := q.1; omega
def rising : List P2 → Bool := fun sp => ((cut sp none (some (-1))).zip (cut sp (some 1) none)).all fun x => !decide (mkq x.2 < mkq x.1)
def gL (l : RLine) : Bool :=
  (decide ((1 : Int) ≤ (l.1.length : Int)) && decide ((l.1.length : Int) ≤ 6)) && ((l.1.all fun p => gF p true) && (rising l.1 && (gF l.2.1 false && ((decide (0 ≤ l.2.2.1) && decide (l.2.2.1 ≤ 9)) &&
    cond (decide (l.2.2.1 = 0)) (decide (l.2.2.2 = ("" : Str))) (decide (l.2.2.2 ∈ (["stay", "lose", "skip"] : List Str)))))))
theorem jf_line {l : RLine} : JF (fn_ask_line [eRLine l]) (gL l) := by
  obtain ⟨sp, more, room, rule⟩ := l
  refine jf_run (ρ1 := [.fz (eRLine (sp, more, room, rule)), .un, .fz (eL eP sp), .fz (eP more), zI room, .fz (D.str rule), .un]) ?_
  show JA (Net.fb_ask_line [.fz (eRLine (sp, more, room, rule)), .un, .un, .un, .un, .un, .un]) _ _
  delta Net.fb_ask_line
  refine ja_sq (ρ1 := [.fz (eRLine (sp, more, room, rule)), .un, .fz (eL eP sp), .fz (eP more), zI room, .fz (D.str rule), .un]) (sAsg (vf 0 rfl) rfl) ?_
  refine ja_seq (ja_call (x1 (chn rfl (c1 (a1 (vf 2 rfl) a0) (o_lenL (F := eP))) rfl (fun _ => rfl) (fun _ => rfl)) (x1 rfl x0)) rfl rfl jf_ask) fun h1 => ?_
  rw [Bool.and_eq_true, decide_eq_true_iff, decide_eq_true_iff] at h1
  refine ja_seq (ja_forU (F := eP) (p := fun p => gF p true) (i_L (F := eP) (vf 2 rfl)) fun x hx => ⟨_, rfl, ja_as (ja_seq (ρ1 := [.fz (eRLine (sp, more, room, rule)), .fz (eP x), .fz (eL eP sp), .fz (eP more), zI room, .fz (D.str rule), .un]) (ja_call (x1 (vf 1 rfl) (x1 rfl x0)) rfl rfl (jf_fraction (an := true))) fun _ => ja_sq (sKill rfl) (ja_ok rfl)) (Bool.and_true _)⟩) fun h2 => ?_
  have good : ∀ x ∈ sp, gF x true = true := fun x hx => List.all_eq_true.mp h2 x hx
  have inc : ∀ {lo hi : Option Int} {x : P2}, x ∈ cut sp lo hi → x ∈ sp := fun h => List.mem_of_mem_drop (List.mem_of_mem_take h)
  refine ja_seq (ja_forU (F := eT2 eP eP) (p := fun x => !decide (mkq x.2 < mkq x.1)) (i_zip (F := eP) (G := eP) (a1 (mfz (slL (F := eP) (vf 2 rfl) pt0 (pt1 (u1 rfl rfl)))) (a1 (mfz (slL (F := eP) (vf 2 rfl) (pt1 rfl) pt0)) a0))) fun x hx => ?_) fun h3 => ?_
  · have m1 := good _ (inc (List.of_mem_zip hx).1)
    have m2 := good _ (inc (List.of_mem_zip hx).2)
    have z1 := gF_sz m1
    have z2 := gF_sz m2
    have e : eT2 eP eP x = eT2 fq fq (mkq x.1, mkq x.2) := by
      show D.tup [eT2 D.int D.int x.1, eT2 D.int D.int x.2] = D.tup [fq (mkq x.1), fq (mkq x.2)]
      rw [mkq_enc (gF_q m1).1, mkq_enc (gF_q m2).1]
    refine ⟨_, by rw [e]; rfl, ja_as (ja_seq (ρ1 := [.fz (eRLine (sp, more, room, rule)), zQ (mkq x.1), .fz (eL eP sp), .fz (eP more), zI room, .fz (D.str rule), zQ (mkq x.2)]) (ja_call (x1 (ntV (mfz (cN (x1 (vf 6 rfl) (x1 (vf 1 rfl) x0)) rfl rfl (Std.e_is_less (p := mkq x.2) (q := mkq x.1) (by unfold Std.SQ; omega) :) rfl))) (x1 rfl x0)) rfl rfl jf_ask) fun _ => ja_sq (sKill rfl) (ja_ok rfl)) (Bool.and_true _)⟩
  refine ja_seq (ja_call (x1 (vf 3 rfl) (x1 rfl x0)) rfl rfl (jf_fraction (an := false))) fun _ => ?_
  refine ja_seq (ja_call (x1 (chn rfl (vf 4 rfl) rfl (fun _ => rfl) (fun _ => rfl)) (x1 rfl x0)) rfl rfl jf_ask) fun _ => ?_
  refine ja_as (ja_seq (ja_if (b1 := decide (rule = ("" : Str)) && true) (b2 := decide (rule ∈ (["stay", "lose", "skip"] : List Str)) && true) (tst (b2 (vf 4 rfl) rfl dEq_i)) (fun _ => ja_seq (ja_call (x1 (b2 (vf 5 rfl) rfl dEq_s) (x1 rfl x0)) rfl rfl jf_ask) fun _ => ja_ok rfl)
    (fun _ => ja_seq (ja_call (x1 (b2 (vf 5 rfl) rfl (o_inSV (ys := ["stay", "lose", "skip"]))) (x1 rfl x0)) rfl rfl jf_ask) fun _ => ja_ok rfl)) fun _ => ja_ok rfl) ?_
  rw [Bool.and_true, Bool.and_true, Bool.and_true]
def wStep (_ : Int) (w : RWay) : Int := w.1
def wOk (many last : Int) (w : RWay) : Bool := (decide (last < w.1) && decide (w.1 < many)) && gF w.2 true
def sharesQ (goes : List RWay) : List Rat := goes.map fun w => mkq w.2
def gS (s : RStand) (lines many : Int) : Bool :=
  (decide (0 ≤ s.1) && decide (s.1 < lines)) && (gF s.2.1 true && (allS wStep (wOk many) s.2.2 (-1) && (!decide ((1 : Rat) < Std.sumQ (sharesQ s.2.2)))))
theorem wOk_len {many : Int} (hm : many ≤ 1000) : ∀ (xs : List RWay) (last : Int), -1 ≤ last → allS wStep (wOk many) xs last = true → (∀ x ∈ xs, gF x.2 true = true) ∧ (xs.length : Int) ≤ max 0 (many - 1 - last)
  | [], last, _, _ => ⟨fun x h => (nomatch h), by simp; omega⟩
  | x :: r, last, hl, h => by
    unfold allS at h
    rw [Bool.and_eq_true] at h
    have h1 := h.1
    unfold wOk at h1
    simp only [Bool.and_eq_true, decide_eq_true_iff] at h1
    obtain ⟨⟨a, b⟩, c⟩ := h1
    obtain ⟨i1, i2⟩ := wOk_len hm r x.1 (by omega) h.2
    refine ⟨fun y hy => ?_, ?_⟩
    · rcases List.mem_cons.mp hy with rfl | hy
      · exact c
      · exact i1 y hy
    · rw [List.length_cons]; omega
theorem shares_enc {xs : List RWay} (h : ∀ x ∈ xs, gF x.2 true = true) : eL eRWay xs = eL (eT2 D.int fq) (xs.map fun w => (w.1, mkq w.2)) := by
  unfold eL
  rw [List.map_map]
  congr 1
  refine List.map_congr_left fun x hx => ?_
  show D.tup [.int x.1, eT2 D.int D.int x.2] = D.tup [.int x.1, fq (mkq x.2)]
  rw [mkq_enc (gF_q (h x hx)).1]
theorem shares_sz {xs : List RWay} (h : ∀ x ∈ xs, gF x.2 true = true) (hl : xs.length ≤ 1000) : Std.tsz (sharesQ xs) ≤ 11001 := by
  have := Std.tsz_le (xs := sharesQ xs) (n := 10) fun q hq => by
    obtain ⟨w, hw, rfl⟩ := List.mem_map.mp hq
    exact gF_sz (h w hw)
  have e : (sharesQ xs).length = xs.length := List.length_map ..
  rw [e] at this
  omega
theorem jf_stand {s : RStand} {lines many : Int} (hm : many ≤ 1000) : JF (fn_ask_stand [eRStand s, D.int lines, D.int many]) (gS s lines many) := by
  obtain ⟨line, rate, goes⟩ := s
  let C (a : Slot) (b c : Slot) : Dt.Env := [.fz (eRStand (line, rate, goes)), zI lines, zI many, a, zI line, .fz (eP rate), .fz (eL eRWay goes), b, c]
  refine jf_run (ρ1 := C (zI (goes.foldl wStep (-1))) .un .un) ?_
  show JA (Net.fb_ask_stand [.fz (eRStand (line, rate, goes)), zI lines, zI many, .un, .un, .un, .un, .un, .un]) _ _
  delta Net.fb_ask_stand
  refine ja_sq (ρ1 := C .un .un .un) (sAsg (vf 0 rfl) rfl) ?_
  refine ja_seq (ja_call (x1 (chn rfl (vf 4 rfl) rfl (fun _ => vf 1 rfl) (fun _ => rfl)) (x1 rfl x0)) rfl rfl jf_ask) fun _ => ?_
  refine ja_seq (ja_call (x1 (vf 5 rfl) (x1 rfl x0)) rfl rfl (jf_fraction (an := true))) fun _ => ?_
  refine ja_sq (ρ1 := C (zI (-1)) .un .un) (sSet (mof (u1 rfl rfl)) rfl) ?_
  refine ja_seq (ja_for (F := eRWay) (ctx := fun z => C (zI z) .un .un) (step := wStep) (p := wOk many) (s := -1) (i_L (F := eRWay) (vf 6 rfl)) fun z x hx => ⟨C (zI z) (zI x.1) (.fz (eP x.2)), rfl, ?_⟩) fun h3 => ?_
  · refine ja_seq (ja_call (x1 (chn (vf 3 rfl) (vf 7 rfl) rfl (fun _ => vf 2 rfl) (fun _ => rfl)) (x1 rfl x0)) rfl rfl jf_ask) fun _ => ?_
    refine ja_as (ja_seq (ja_call (x1 (vf 8 rfl) (x1 rfl x0)) rfl rfl (jf_fraction (an := true))) fun _ => ja_sq (ρ1 := C (zI x.1) (zI x.1) (.fz (eP x.2))) (sSet (mof (vf 7 rfl)) rfl) (ja_sq (ρ1 := C (zI x.1) .un .un) (sKill rfl) (ja_ok rfl))) ?_
    rw [Bool.and_true]
  · obtain ⟨g1, g2⟩ := wOk_len hm goes (-1) (by omega) h3
    have gl : goes.length ≤ 1000 := by omega
    have ts := shares_sz g1 gl
    have e := shares_enc g1
    have e2 : (goes.map fun w => (w.1, mkq w.2)).map (fun w : Int × Rat => w.2) = sharesQ goes := by rw [List.map_map]; rfl
    have e3 : C (zI (goes.foldl wStep (-1))) .un .un = [.fz (eRStand (line, rate, goes)), zI lines, zI many, zI (goes.foldl wStep (-1)), zI line, .fz (eP rate), .fz (eL (eT2 D.int fq) (goes.map fun w => (w.1, mkq w.2))), .un, .un] := by
      show ([.fz (eRStand (line, rate, goes)), zI lines, zI many, zI (goes.foldl wStep (-1)), zI line, .fz (eP rate), .fz (eL eRWay goes), .un, .un] : Dt.Env) = _
      rw [e]
    rw [e3]
    refine ja_as (ja_seq (ja_call (x1 (ntV (mfz (cN (x1 rfl (x1 (mfz (cN (x1 (mfz (lcM (F := eT2 D.int fq) (G := fq) (φ := fun w : Int × Rat => w.2) (ρ1 := [.fz (eRStand (line, rate, goes)), zI lines, zI many, zI (goes.foldl wStep (-1)), zI line, .fz (eP rate), .fz (eL (eT2 D.int fq) (goes.map fun w => (w.1, mkq w.2))), .un, .un]) (i_L (F := eT2 D.int fq) (vf 6 rfl)) rfl (fun w hw => ⟨_, rfl, rfl, _, vf 8 rfl, rfl⟩) (by rw [List.length_map]; omega) rfl)) x0) rfl rfl (Std.e_total (xs := (goes.map fun w => (w.1, mkq w.2)).map (fun w : Int × Rat => w.2)) (by rw [e2]; omega) :) rfl)) x0)) rfl rfl (Std.e_is_less (p := (1 : Rat)) (q := Std.sumQ ((goes.map fun w => (w.1, mkq w.2)).map (fun w : Int × Rat => w.2))) ?sq :) rfl))) (x1 rfl x0)) rfl rfl jf_ask) fun _ => ja_ok rfl) ?_
    case sq =>
      rw [e2]
      have z := Std.sz_sumL (sharesQ goes)
      have z1 : sz (1 : Rat) ≤ 1 := by decide
      unfold Std.SQ
      omega
    rw [Bool.and_true, e2]
theorem gP : Gd 1 eP := gT2 gI gI
theorem xRL : Gx 3 eRLine := xT4 (n := 2) (Dt.gL gP).gx (gP.gx.up (by decide)) (gI.gx.up (by decide)) (xSt.up (by decide))
def RuleOk (l : RLine) : Prop := PySem.PyData.strOk l.2.2.2 = true
theorem okRLine {l : RLine} (h : RuleOk l) : okD 19 (eRLine l) = true := by
  show (okD 18 (eL eP l.1) && (okD 18 (eP l.2.1) && (okD 18 (D.int l.2.2.1) && (okD 18 (D.str l.2.2.2) && true)))) = true
  rw [okD_up (n := 2) (by decide) ((Dt.gL gP).ok l.1), okD_up (n := 1) (by decide) (gP.ok l.2.1)]
  show (true && (true && (true && (PySem.PyData.strOk l.2.2.2 && true)))) = true
  rw [show PySem.PyData.strOk l.2.2.2 = true from h]; rfl
theorem okRLines {ls : List RLine} (h : ∀ l ∈ ls, RuleOk l) : OkE (eL eRLine) ls := by
  show (ls.map eRLine).all (okD 19) = true
  rw [List.all_map, List.all_eq_true]
  exact fun l hl => okRLine (h l hl)
def gR (lines : List RLine) (ps : List P2) : Bool :=
  (ps.all fun p => gF p false) && ((!decide ((ps.filter fun p => !decide (p = ((0 : Int), (1 : Int)))) = [])) &&
    cond (decide (maxL (lines.map fun l => l.2.2.1) = 0)) (decide ((lines.filter fun l => !decide (l.2.1 = ((0 : Int), (1 : Int)))) = [])) (decide (0 < minL (lines.map fun l => l.2.2.1))))
theorem jf_rates {lines : List RLine} {ps : List P2} (hl : lines ≠ []) (hlen : lines.length ≤ 1000) (hp : ps.length ≤ 1000) (hr : ∀ l ∈ lines, RuleOk l) : JF (fn_ask_rates [eL eRLine lines, eL eP ps]) (gR lines ps) := by
  let C (b c d : Slot) : Dt.Env := [.fz (eL eRLine lines), .fz (eL eP ps), b, c, d]
  have id1 : ∀ (xs : List P2), xs.map (fun x => x) = xs := fun xs => List.map_id' xs
  have id2 : ∀ (xs : List RLine), xs.map (fun x => x) = xs := fun xs => List.map_id' xs
  refine jf_run (ρ1 := C .un (zJ (lines.map fun l => l.2.2.1)) .un) ?_
  show JA (Net.fb_ask_rates (C .un .un .un)) _ _
  delta Net.fb_ask_rates
  refine ja_seq (ja_forU (F := eP) (ρ1 := C .un .un .un) (p := fun p => gF p false) (i_L (F := eP) (vf 1 rfl)) fun x hx => ⟨C (.fz (eP x)) .un .un, rfl, ja_as (ja_seq (ja_call (x1 (vf 2 rfl) (x1 rfl x0)) rfl rfl (jf_fraction (an := false))) fun _ => ja_sq (ρ1 := C .un .un .un) (sKill rfl) (ja_ok rfl)) (Bool.and_true _)⟩) fun h1 => ?_
  refine ja_seq (b1 := !decide ((ps.filter fun p => !decide (p = ((0 : Int), (1 : Int)))) = [])) (ja_as (ja_call (x1 (b2 (mfz (lcP (F := eP) (G := eP) (p := fun p => !decide (p = ((0 : Int), (1 : Int)))) (φ := fun p => p) (ρ1 := C .un .un .un) (i_L (F := eP) (vf 1 rfl)) rfl (fun p hp => ⟨C (.fz (eP p)) .un .un, rfl, tst (b2 (vf 2 rfl) rfl (o_ne (F := eP) (x := p) (y := ((0 : Int), (1 : Int))) gP)), rfl, fun _ => ⟨_, vf 2 rfl, rfl⟩⟩) (by omega) rfl)) (mfz (mlst a0)) (o_ne (F := eL eP) (y := ([] : List P2)) (Dt.gL gP))) (x1 rfl x0)) rfl rfl jf_ask) (by rw [id1])) fun h2 => ?_
  refine ja_sq (ρ1 := C .un (.ow (eL D.int (lines.map fun l => l.2.2.1))) .un) (sSetO (lcM (F := eRLine) (G := D.int) (φ := fun l : RLine => l.2.2.1) (ρ1 := C .un .un .un) (i_L (F := eRLine) (vf 0 rfl)) rfl (fun l hl => ⟨C .un .un (.fz (eRLine l)), rfl, rfl, _, b2 (vf 4 rfl) rfl rfl, rfl⟩) (by omega) rfl) rfl) ?_
  refine ja_sq (ρ1 := C .un (zJ (lines.map fun l => l.2.2.1)) .un) (sFrz (i := 3) rfl rfl) ?_
  have ne : (lines.map fun l => l.2.2.1) ≠ [] := fun e => hl (List.map_eq_nil_iff.mp e)
  refine ja_as (ja_seq (ja_if (b1 := decide ((lines.filter fun l => !decide (l.2.1 = ((0 : Int), (1 : Int)))) = []) && true) (b2 := decide (0 < minL (lines.map fun l => l.2.2.1)) && true) (tst (b2 (c1 (a1 (vf 3 rfl) a0) (o_maxL ne)) rfl dEq_i))
    (fun _ => ja_seq (ja_as (ja_call (x1 (b2 (mfz (lcP (F := eRLine) (G := eRLine) (p := fun l : RLine => !decide (l.2.1 = ((0 : Int), (1 : Int)))) (φ := fun l => l) (ρ1 := C .un (zJ (lines.map fun l => l.2.2.1)) .un) (i_L (F := eRLine) (vf 0 rfl)) rfl (fun l hl => ⟨C .un (zJ (lines.map fun l => l.2.2.1)) (.fz (eRLine l)), rfl, tst (b2 (b2 (vf 4 rfl) rfl rfl) rfl (o_ne (F := eP) (x := l.2.1) (y := ((0 : Int), (1 : Int))) gP)), rfl, fun _ => ⟨_, vf 4 rfl, rfl⟩⟩) (by omega) rfl)) (mfz (mlst a0)) (o_eqx (F := eL eRLine) (y := ([] : List RLine)) (xL xRL) (by rw [id2]; exact okRLines fun l hl => hr l (List.mem_filter.mp hl).1) rfl)) (x1 rfl x0)) rfl rfl jf_ask) (by rw [id2])) fun _ => ja_ok rfl)
    (fun _ => ja_seq (ja_call (x1 (b2 (c1 (a1 (vf 3 rfl) a0) (o_minL ne)) rfl rfl) (x1 rfl x0)) rfl rfl jf_ask) fun _ => ja_ok rfl)) fun _ => ja_ok rfl) ?_
  rw [Bool.and_true, Bool.and_true, Bool.and_true]
def begun (stands : List RStand) (counts : List Int) (i : Int) : Int := (((counts.zip stands).filter fun z => decide (z.2.1 = i)).map fun z => z.1).sum
def gC (lines : List RLine) (stands : List RStand) (counts : List Int) : Bool :=
  (decide (0 ≤ minL counts) && (decide (1 ≤ counts.sum) && decide (counts.sum ≤ 8))) && (decide ((lines.filter fun l => decide (l.2.2.2 = ("lose" : Str))) = []) &&
    ((stands.all fun s => decide (Std.sumQ (sharesQ s.2.2) = 1)) && ((enumI lines).all fun z => decide (z.2.2.2.1 = 0) || decide (begun stands counts z.1 ≤ z.2.2.2.1))))
theorem total_ok {xs : List RWay} (h : ∀ x ∈ xs, gF x.2 true = true) (hl : xs.length ≤ 1000) {ρ : Dt.Env} {f : M D} (hf : f ρ = .ok (eL eRWay xs) ρ) {i j : Nat} (hw : wipeE ρ [i, j] = ρ) (hg : ∀ x : Int × Rat, ∃ ρx, gT 2 (gsC (gN i) (gsC (gN j) gsN)) (eT2 D.int fq x) ρ = some ρx ∧ wipeE ρx [i, j] = ρ ∧ mVar j ρx = .ok (fq x.2) ρx) :
    mFz (mCallN 1 none Std.fn_total (xV (mFz (mLc [i, j] (mIter f) (gT 2 (gsC (gN i) (gsC (gN j) gsN))) (M.pure true) (mVar j))) xNil)) ρ = .ok (fq (Std.sumQ (sharesQ xs))) ρ := by
  have ts := shares_sz h hl
  have e2 : (xs.map fun w => (w.1, mkq w.2)).map (fun w : Int × Rat => w.2) = sharesQ xs := by rw [List.map_map]; rfl
  rw [shares_enc h] at hf
  have := mfz (cN (n := 1) (m := none) (fn := Std.fn_total) (x1 (mfz (lcM (F := eT2 D.int fq) (G := fq) (φ := fun w : Int × Rat => w.2) (ρ1 := ρ) (own := [i, j]) (g := gT 2 (gsC (gN i) (gsC (gN j) gsN))) (e := mVar j) (i_L (F := eT2 D.int fq) hf) hw (fun w _ => by
    obtain ⟨ρx, a, b, c⟩ := hg w
    exact ⟨ρx, a, b, ρx, c, b⟩) (by rw [List.length_map]; omega) hw)) x0) rfl rfl (Std.e_total (xs := (xs.map fun w => (w.1, mkq w.2)).map (fun w : Int × Rat => w.2)) (by rw [e2]; omega)) rfl)
  rw [e2] at this
  exact this
theorem jf_counts {lines : List RLine} {stands : List RStand} {counts : List Int} (hc : counts ≠ []) (hlen : lines.length ≤ 1000) (hn : counts.length ≤ 1000) (hr : ∀ l ∈ lines, RuleOk l) (hs : ∀ s ∈ stands, (∀ x ∈ s.2.2, gF x.2 true = true) ∧ s.2.2.length ≤ 1000) : JF (fn_ask_counts [eL eRLine lines, eL eRStand stands, eL D.int counts]) (gC lines stands counts) := by
  let C (a b c d : Slot) (e f g : Slot) : Dt.Env := [.fz (eL eRLine lines), .fz (eL eRStand stands), zJ counts, a, b, c, d, e, f, g]
  have id2 : ∀ (xs : List RLine), xs.map (fun x => x) = xs := fun xs => List.map_id' xs
  refine jf_run (ρ1 := C .un .un .un .un .un .un .un) ?_
  show JA (Net.fb_ask_counts (C .un .un .un .un .un .un .un)) _ _
  delta Net.fb_ask_counts
  refine ja_seq (ja_call (x1 (anV (b2 (c1 (a1 (vf 2 rfl) a0) (o_minL hc)) rfl rfl) (fun _ => chn rfl (c1 (a1 (vf 2 rfl) a0) o_sum) rfl (fun _ => rfl) (fun _ => rfl))) (x1 rfl x0)) rfl rfl jf_ask) fun _ => ?_
  refine ja_seq (ja_as (ja_call (x1 (b2 (mfz (lcP (F := eRLine) (G := eRLine) (p := fun l : RLine => decide (l.2.2.2 = ("lose" : Str))) (φ := fun l => l) (ρ1 := C .un .un .un .un .un .un .un) (i_L (F := eRLine) (vf 0 rfl)) rfl (fun l hl => ⟨C .un .un (.fz (eRLine l)) .un .un .un .un, rfl, tst (b2 (b2 (vf 5 rfl) rfl rfl) rfl dEq_s), rfl, fun _ => ⟨_, vf 5 rfl, rfl⟩⟩) (by omega) rfl)) (mfz (mlst a0)) (o_eqx (F := eL eRLine) (y := ([] : List RLine)) (xL xRL) (by rw [id2]; exact okRLines fun l hl => hr l (List.mem_filter.mp hl).1) rfl)) (x1 rfl x0)) rfl rfl jf_ask) (by rw [id2])) fun _ => ?_
  refine ja_seq (ja_forU (F := eRStand) (ρ1 := C .un .un .un .un .un .un .un) (p := fun s => decide (Std.sumQ (sharesQ s.2.2) = 1)) (i_L (F := eRStand) (vf 1 rfl)) fun s hss => ⟨C (.fz (eRStand s)) .un .un .un .un .un .un, rfl, ja_as (ja_seq (ja_call (x1 (b2 (total_ok (hs s hss).1 (hs s hss).2 (b2 (vf 3 rfl) rfl rfl) rfl fun x => ⟨C (.fz (eRStand s)) .un .un .un .un (zI x.1) (zQ x.2), rfl, rfl, vf 9 rfl⟩) rfl (o_eq (F := fq) (y := (1 : Rat)) gQ)) (x1 rfl x0)) rfl rfl jf_ask) fun _ => ja_sq (ρ1 := C .un .un .un .un .un .un .un) (sKill rfl) (ja_ok rfl)) (Bool.and_true _)⟩) fun _ => ?_
  refine ja_as (ja_seq (ja_forU (F := eT2 D.int eRLine) (ρ1 := C .un .un .un .un .un .un .un) (p := fun z => decide (z.2.2.2.1 = 0) || decide (begun stands counts z.1 ≤ z.2.2.2.1)) (i_enum (F := eRLine) (a1 (vf 0 rfl) a0)) fun z _ => ⟨C .un (zI z.1) (.fz (eRLine z.2)) .un .un .un .un, rfl, ?_⟩) fun _ => ja_ok rfl) (Bool.and_true _)
  refine ja_sq (ρ1 := C .un (zI z.1) (.fz (eRLine z.2)) (zI (begun stands counts z.1)) .un .un .un) (sSet (mof (c1 (a1 (mfz (lcP (F := eT2 D.int eRStand) (G := D.int) (p := fun y : Int × RStand => decide (y.2.1 = z.1)) (φ := fun y => y.1) (ρ1 := C .un (zI z.1) (.fz (eRLine z.2)) .un .un .un .un) (i_zip (F := D.int) (G := eRStand) (a1 (vf 2 rfl) (a1 (vf 1 rfl) a0))) rfl (fun y _ => ⟨C (.fz (eRStand y.2)) (zI z.1) (.fz (eRLine z.2)) .un (zI y.1) .un .un, rfl, tst (b2 (b2 (vf 3 rfl) rfl rfl) (vf 4 rfl) dEq_i), rfl, fun _ => ⟨_, vf 7 rfl, rfl⟩⟩) (by rw [List.length_zip]; omega) rfl)) a0) o_sum)) rfl) ?_
  exact ja_as (ja_seq (ja_call (x1 (orV (b2 (b2 (vf 5 rfl) rfl rfl) rfl dEq_i) (fun _ => b2 (vf 6 rfl) (b2 (vf 5 rfl) rfl rfl) rfl)) (x1 rfl x0)) rfl rfl jf_ask) fun _ => ja_sq (ρ1 := C .un .un .un .un .un .un .un) (sKill rfl) (ja_ok rfl)) (Bool.and_true _)
abbrev PE : Type := P2 ⊕ Int
def ePE : PE → D
  | .inl p => eP p
  | .inr i => .int i
abbrev RCom : Type := Str × List PE
abbrev eRCom : RCom → D := eT2 D.str (eL ePE)
abbrev RNet : Type := List RLine × List RStand × RCom
abbrev eRNet : RNet → D := eT3 (eL eRLine) (eL eRStand) eRCom
def psOf (xs : List PE) : List P2 := xs.map fun x => match x with
  | .inl p => p
  | .inr _ => (0, 1)
def nsOf (xs : List PE) : List Int := xs.map fun x => match x with
  | .inl _ => 0
  | .inr i => i
def HomC (c : RCom) : Prop := (c.1 = ("open" : Str) → c.2 = (psOf c.2).map .inl) ∧ (c.1 = ("shut" : Str) → c.2 = (nsOf c.2).map .inr)
def unused (lines : List RLine) (stands : List RStand) : List Int := (rangeI 0 (lines.length : Int)).filter fun i => !decide (i ∈ stands.map fun s => s.1)
def gN (lines : List RLine) (stands : List RStand) (c : RCom) : Bool :=
  ((decide ((1 : Int) ≤ (lines.length : Int)) && decide ((lines.length : Int) ≤ 8)) && (decide ((1 : Int) ≤ (stands.length : Int)) && decide ((stands.length : Int) ≤ 12))) &&
    ((lines.all gL) && ((stands.all fun s => gS s (lines.length : Int) (stands.length : Int)) && (decide (unused lines stands = []) && ((decide (c.1 ∈ (["open", "shut"] : List Str)) && decide ((c.2.length : Int) = (stands.length : Int))) &&
      cond (decide (c.1 = ("open" : Str))) (gR lines (psOf c.2)) (gC lines stands (nsOf c.2))))))
theorem gL_rule {l : RLine} (h : gL l = true) : RuleOk l := by
  unfold gL at h
  simp only [Bool.and_eq_true] at h
  have h := h.2.2.2.2
  unfold RuleOk
  cases q : decide (l.2.2.1 = 0) with
  | true =>
    rw [q] at h
    have e : l.2.2.2 = ("" : Str) := of_decide_eq_true h.2
    rw [e]; decide +kernel
  | false =>
    rw [q] at h
    have e : l.2.2.2 ∈ (["stay", "lose", "skip"] : List Str) := of_decide_eq_true h.2
    simp only [List.mem_cons, List.not_mem_nil, or_false] at e
    rcases e with e | e | e <;> rw [e] <;> decide +kernel
theorem gS_ways {s : RStand} {lines many : Int} (hm : many ≤ 1000) (h : gS s lines many = true) : (∀ x ∈ s.2.2, gF x.2 true = true) ∧ s.2.2.length ≤ 1000 := by
  unfold gS at h
  simp only [Bool.and_eq_true] at h
  obtain ⟨a, b⟩ := wOk_len hm s.2.2 (-1) (by omega) h.2.2.1
  exact ⟨a, by omega⟩
theorem jf_net {lines : List RLine} {stands : List RStand} {c : RCom} (hc : HomC c) : JF (fn_ask_net [eL eRLine lines, eL eRStand stands, eRCom c]) (gN lines stands c) := by
  obtain ⟨w, nums⟩ := c
  have id1 : ∀ (xs : List Int), xs.map (fun x => x) = xs := fun xs => List.map_id' xs
  let C (a b u k m : Slot) : Dt.Env := [.fz (eL eRLine lines), .fz (eL eRStand stands), .fz (eRCom (w, nums)), a, b, u, k, m]
  let U : List Int := stands.map fun s => s.1
  refine jf_run (ρ1 := C .un .un (zJ U) (.fz (D.str w)) (.fz (eL ePE nums))) ?_
  show JA (Net.fb_ask_net (C .un .un .un .un .un)) _ _
  delta Net.fb_ask_net
  refine ja_seq (ja_call (x1 (anV (chn rfl (c1 (a1 (vf 0 rfl) a0) (o_lenL (F := eRLine))) rfl (fun _ => rfl) (fun _ => rfl)) (fun _ => chn rfl (c1 (a1 (vf 1 rfl) a0) (o_lenL (F := eRStand))) rfl (fun _ => rfl) (fun _ => rfl))) (x1 rfl x0)) rfl rfl jf_ask) fun h1 => ?_
  simp only [Bool.and_eq_true, decide_eq_true_iff] at h1
  refine ja_seq (ja_forU (F := eRLine) (ρ1 := C .un .un .un .un .un) (p := gL) (i_L (F := eRLine) (vf 0 rfl)) fun l hl => ⟨C (.fz (eRLine l)) .un .un .un .un, rfl, ja_as (ja_seq (ja_call (x1 (vf 3 rfl) x0) rfl rfl jf_line) fun _ => ja_sq (ρ1 := C .un .un .un .un .un) (sKill rfl) (ja_ok rfl)) (Bool.and_true _)⟩) fun h2 => ?_
  refine ja_seq (ja_forU (F := eRStand) (ρ1 := C .un .un .un .un .un) (p := fun s => gS s (lines.length : Int) (stands.length : Int)) (i_L (F := eRStand) (vf 1 rfl)) fun s hs => ⟨C .un (.fz (eRStand s)) .un .un .un, rfl, ja_as (ja_seq (ja_call (x1 (vf 4 rfl) (x1 (c1 (a1 (vf 0 rfl) a0) (o_lenL (F := eRLine))) (x1 (c1 (a1 (vf 1 rfl) a0) (o_lenL (F := eRStand))) x0))) rfl rfl (jf_stand (by omega))) fun _ => ja_sq (ρ1 := C .un .un .un .un .un) (sKill rfl) (ja_ok rfl)) (Bool.and_true _)⟩) fun h3 => ?_
  have rl : ∀ l ∈ lines, RuleOk l := fun l hl => gL_rule (List.all_eq_true.mp h2 l hl)
  have ws : ∀ s ∈ stands, (∀ x ∈ s.2.2, gF x.2 true = true) ∧ s.2.2.length ≤ 1000 := fun s hs => gS_ways (by omega) (List.all_eq_true.mp h3 s hs)
  refine ja_sq (ρ1 := C .un .un (.ow (eL D.int U)) .un .un) (sSetO (lcM (F := eRStand) (G := D.int) (φ := fun s : RStand => s.1) (ρ1 := C .un .un .un .un .un) (i_L (F := eRStand) (vf 1 rfl)) rfl (fun s hs => ⟨C .un (.fz (eRStand s)) .un .un .un, rfl, rfl, _, b2 (vf 4 rfl) rfl rfl, rfl⟩) (by omega) rfl) rfl) ?_
  refine ja_sq (ρ1 := C .un .un (zJ U) .un .un) (sFrz (i := 5) rfl rfl) ?_
  refine ja_seq (b1 := decide (unused lines stands = [])) (ja_as (ja_call (x1 (b2 (mfz (lcP (F := D.int) (G := D.int) (p := fun i => !decide (i ∈ U)) (φ := fun i => i) (ρ1 := C .un .un (zJ U) .un .un) (i_r1 (a1 (c1 (a1 (vf 0 rfl) a0) (o_lenL (F := eRLine))) a0) (by omega)) rfl (fun i hi => ⟨C (zI i) .un (zJ U) .un .un, rfl, tst (b2 (vf 3 rfl) (vf 5 rfl) (o_ninI (x := i) (ys := U))), rfl, fun _ => ⟨_, vf 3 rfl, rfl⟩⟩) (by rw [show (rangeI 0 (lines.length : Int)).length = lines.length by unfold rangeI; simp]; omega) rfl)) (mfz (mlst a0)) (o_eq (F := eL D.int) (y := ([] : List Int)) (Dt.gL gI))) (x1 rfl x0)) rfl rfl jf_ask) (by rw [id1]; rfl)) fun _ => ?_
  refine ja_sq (ρ1 := C .un .un (zJ U) (.fz (D.str w)) (.fz (eL ePE nums))) (sAsg (vf 2 rfl) rfl) ?_
  refine ja_seq (ja_call (x1 (anV (b2 (vf 6 rfl) (mtup (a1 rfl (a1 rfl a0))) (o_inSV (x := w) (ys := [("open" : Str), ("shut" : Str)]))) (fun _ => b2 (c1 (a1 (vf 7 rfl) a0) (o_lenL (F := ePE))) (c1 (a1 (vf 1 rfl) a0) (o_lenL (F := eRStand))) dEq_i)) (x1 rfl x0)) rfl rfl jf_ask) fun h5 => ?_
  simp only [Bool.and_eq_true, decide_eq_true_iff] at h5
  obtain ⟨h5, h6⟩ := h5
  have nl : lines ≠ [] := fun e => by rw [e] at h1; simp at h1
  have nn : nums ≠ [] := fun e => by rw [e] at h6; simp at h6; omega
  refine ja_as (ja_seq (ja_if (b1 := gR lines (psOf nums) && true) (b2 := gC lines stands (nsOf nums) && true) (tst (b2 (vf 6 rfl) rfl dEq_s)) (fun q => ?_) fun q => ?_) fun _ => ja_ok rfl) (by rw [Bool.and_true, Bool.and_true, Bool.and_true])
  · have e : eL ePE nums = eL eP (psOf nums) := by
      have := hc.1 (of_decide_eq_true q)
      have h : eL ePE ((psOf nums).map Sum.inl) = eL eP (psOf nums) := by unfold eL; rw [List.map_map]; rfl
      rw [← h]; exact congrArg (eL ePE) this
    have hv : mVar 7 (C .un .un (zJ U) (.fz (D.str w)) (.fz (eL ePE nums))) = .ok (eL eP (psOf nums)) (C .un .un (zJ U) (.fz (D.str w)) (.fz (eL ePE nums))) := by rw [← e]; rfl
    exact ja_seq (ja_call (x1 (vf 0 rfl) (x1 hv x0)) rfl rfl (jf_rates nl (by omega) (by unfold psOf; rw [List.length_map]; omega) rl)) fun _ => ja_ok rfl
  · have w2 : w = ("shut" : Str) := by
      have : w ≠ ("open" : Str) := of_decide_eq_false q
      simp only [List.mem_cons, List.not_mem_nil, or_false] at h5
      exact h5.resolve_left this
    have e : eL ePE nums = eL D.int (nsOf nums) := by
      have := hc.2 w2
      have h : eL ePE ((nsOf nums).map Sum.inr) = eL D.int (nsOf nums) := by unfold eL; rw [List.map_map]; rfl
      rw [← h]; exact congrArg (eL ePE) this
    have hv : mVar 7 (C .un .un (zJ U) (.fz (D.str w)) (.fz (eL ePE nums))) = .ok (eL D.int (nsOf nums)) (C .un .un (zJ U) (.fz (D.str w)) (.fz (eL ePE nums))) := by rw [← e]; rfl
    exact ja_seq (ja_call (x1 (vf 0 rfl) (x1 (vf 1 rfl) (x1 hv x0))) rfl rfl (jf_counts (by unfold nsOf; intro z; exact nn (List.map_eq_nil_iff.mp z)) (by omega) (by unfold nsOf; rw [List.length_map]; omega) rl ws)) fun _ => ja_ok rfl
theorem made_no {lines : List RLine} {stands : List RStand} {c : RCom} (hc : HomC c) (h : gN lines stands c = false) : fn_made_net [eL eRLine lines, eL eRStand stands, eRCom c] = .rz "NoNet" := by
  refine runZ (x := ()) (fb := Net.fb_made_net) ?_
  show JZ "NoNet" (Net.fb_made_net [.fz (eL eRLine lines), .fz (eL eRStand stands), .fz (eRCom c), .un, .un, .un, .un, .un, .un, .un, .un]) ()
  delta Net.fb_made_net
  refine ⟨[.fz (eL eRLine lines), .fz (eL eRStand stands), .fz (eRCom c), .un, .un, .un, .un, .un, .un, .un, .un], ?_⟩
  show M.bind _ _ _ = _
  refine bz ?_
  show M.bind (mFz _) _ _ = _
  refine bz ?_
  show M.bind _ _ _ = _
  exact bz (cZ (x1 (vf 0 rfl) (x1 (vf 1 rfl) (x1 (vf 2 rfl) x0))) rfl rfl ((jf_net hc).2 h))
theorem made_ok {lines : List RLine} {stands : List RStand} {c : RCom} (hc : HomC c) (h : gN lines stands c = true) : fn_made_net [eL eRLine lines, eL eRStand stands, eRCom c] = .ok (eRNet (lines, stands, c)) .ff .non := by
  have h0 := h
  unfold gN at h0
  simp only [Bool.and_eq_true, decide_eq_true_iff] at h0
  obtain ⟨⟨⟨_, l8⟩, _, s12⟩, _⟩ := h0
  refine run0 (F := eRNet) (o := .ff) (fb := Net.fb_made_net) (x := (lines, stands, c)) ?_
  let C (a : Slot) (d e f g h i j : Slot) : Dt.Env := [.fz (eL eRLine lines), .fz (eL eRStand stands), .fz (eRCom c), a, d, e, f, g, h, i, j]
  show JR eRNet .ff (Net.fb_made_net (C .un .un .un .un .un .un .un .un)) _
  delta Net.fb_made_net
  refine sq (ρ1 := C .un .un .un .un .un .un .un .un) (sDrop (mfz (cN (x1 (vf 0 rfl) (x1 (vf 1 rfl) (x1 (vf 2 rfl) x0))) rfl rfl ((jf_net hc).1 h) rfl))) ?_
  have e1 : lines.map (fun l : RLine => (l.1, l.2.1, l.2.2.1, l.2.2.2)) = lines := List.map_id' lines
  have e2 : stands.map (fun s : RStand => (s.1, s.2.1, s.2.2)) = stands := List.map_id' stands
  refine sq (ρ1 := C (.ow (eL eRLine lines)) .un .un .un .un .un .un .un) (sSetO (d := eL eRLine lines) (by
    have := lcM (F := eRLine) (G := eRLine) (φ := fun l : RLine => (l.1, l.2.1, l.2.2.1, l.2.2.2)) (own := [4, 5, 6, 7]) (g := gT 4 (gsC (Dt.gN 4) (gsC (Dt.gN 5) (gsC (Dt.gN 6) (gsC (Dt.gN 7) gsN))))) (e := mTup (mCons (mFz (mListOf (mCons (mVar 4) mNil))) (mCons (mVar 5) (mCons (mVar 6) (mCons (mVar 7) mNil))))) (ρ := C .un .un .un .un .un .un .un .un) (ρ0 := C .un .un .un .un .un .un .un .un) (ρ9 := C .un .un .un .un .un .un .un .un) (ρ1 := C .un .un .un .un .un .un .un .un) (i_L (F := eRLine) (xs := lines) (f := mVar 0) (vf 0 rfl)) rfl (fun l hl => ⟨C .un (.fz (eL eP l.1)) (.fz (eP l.2.1)) (zI l.2.2.1) (.fz (D.str l.2.2.2)) .un .un .un, rfl, rfl, _, mtup (a1 (mfz (lofL (F := eP) (a1 (vf 4 rfl) a0))) (a1 (vf 5 rfl) (a1 (vf 6 rfl) (a1 (vf 7 rfl) a0)))), rfl⟩) (by omega) rfl
    rw [e1] at this
    exact this) rfl) ?_
  refine sq (ρ1 := C (.fz (eL eRLine lines)) .un .un .un .un .un .un .un) (sFrz (i := 3) rfl rfl) ?_
  refine sRet (mof (mtup (a1 (vf 3 rfl) (a1 (mfz (d := eL eRStand stands) (o := .tt) (by
    have := lcM (F := eRStand) (G := eRStand) (φ := fun s : RStand => (s.1, s.2.1, s.2.2)) (own := [8, 9, 10]) (g := gT 3 (gsC (Dt.gN 8) (gsC (Dt.gN 9) (gsC (Dt.gN 10) gsN)))) (e := mTup (mCons (mVar 8) (mCons (mVar 9) (mCons (mFz (mListOf (mCons (mVar 10) mNil))) mNil)))) (ρ := C (.fz (eL eRLine lines)) .un .un .un .un .un .un .un) (ρ0 := C (.fz (eL eRLine lines)) .un .un .un .un .un .un .un) (ρ9 := C (.fz (eL eRLine lines)) .un .un .un .un .un .un .un) (ρ1 := C (.fz (eL eRLine lines)) .un .un .un .un .un .un .un) (i_L (F := eRStand) (xs := stands) (f := mVar 1) (vf 1 rfl)) rfl (fun s hs => ⟨C (.fz (eL eRLine lines)) .un .un .un .un (zI s.1) (.fz (eP s.2.1)) (.fz (eL eRWay s.2.2)), rfl, rfl, _, mtup (a1 (vf 8 rfl) (a1 (vf 9 rfl) (a1 (mfz (lofL (F := eRWay) (a1 (vf 10 rfl) a0))) a0))), rfl⟩) (by omega) rfl
    rw [e2] at this
    exact this)) (a1 (mtup (a1 (b2 (x := eRCom c) (z := D.str c.1) (vf 2 rfl) rfl rfl) (a1 (mfz (lofL (F := ePE) (xs := c.2) (a1 (b2 (x := eRCom c) (z := eL ePE c.2) (vf 2 rfl) rfl rfl) a0))) a0))) a0))))) (jr_mk rfl)
end Raw
namespace Dt
open PySem PySem.Spec PyProof.Rows L2
instance decMemT {z : List L2.Key} {ks : List (List L2.Key)} : Decidable (z ∈ ks) := decidable_of_iff ((ks.any fun k => decide (k = z)) = true) (by
  rw [List.any_eq_true]
  exact ⟨fun ⟨x, h1, h2⟩ => by rw [← of_decide_eq_true h2]; exact h1, fun h => ⟨z, h, decide_eq_true rfl⟩⟩)
section
variable {K : PySem.W.Frag} {B H : Hp}
end
section
variable {X : Cx} {W : WX} {e a b kx : Expr} {pos : Pos} {i : Nat} {x : Str} {px : Pos} {K : PySem.W.Frag}
end
section
variable {X : Cx} {W : WX} {e a b kx dx : Expr} {pos : Pos} {i : Nat} {x : Str} {px : Pos}
end
section
variable {X : Cx} {W : WX} {e a : Expr} {pos p : Pos}
end
section
variable {α : Type} {F : α → D} {l : List (List Int × α)} {z : List Int} {v : α} {ρ ρ1 ρ2 ρ3 : Env} {i : Nat} {fe fk fd : M D} {fs : M (List D)}
end
end Dt
namespace Dt
open PySem PySem.Spec PyProof.Rows L2
mutual

def lfN : Mk → D → Bool
  | .z, d => d.noL
  | .l m, .lst ds => ds.all (lfN m)
  | .t ms, .tup ds => lfT ms ds
  | _, _ => false
def lfT : Mks → List D → Bool
  | .nil, [] => true
  | .cons m r, d :: ds => lfN m d && lfT r ds
  | _, _ => false
end
def iNoL : D → Bool
  | .lst ds => D.noLs ds
  | .dic _ ds => D.noLs ds
  | .dct _ ds => D.noLs ds
  | _ => false
def cutS (B : Hp) (S : List Addr) : Hp := fun x => if x ∈ S then none else B x
def AllC (B : Hp) (S : List Addr) : Prop := ∀ a ∈ S, ∃ o, B a = some o ∧ HO.isC o
section
variable {K : PySem.W.Frag} {B H : Hp} {S : List Addr}
theorem cutS_n {a : Addr} (h : B a = none) : cutS B S a = none := by unfold cutS; split <;> first | rfl | exact h
theorem cutS_in {a : Addr} (h : a ∈ S) : cutS B S a = none := if_pos h
theorem cutS_out {a : Addr} (h : a ∉ S) : cutS B S a = B a := if_neg h
theorem cutS_tup {a : Addr} {vs : List V} (h : B a = some (.tup vs)) (hc : AllC B S) : cutS B S a = some (.tup vs) := by
  rw [cutS_out fun z => ?_]
  · exact h
  · obtain ⟨o, e, c⟩ := hc a z
    rw [h] at e; injection e with e; subst e; exact c
theorem cutS_rd {t : Addr} {xs : List V} (h : Rd B t (.tup xs)) (hc : AllC B S) : Rd (cutS B S) t (.tup xs) := by
  have ne : t ∉ S := fun z => by
    obtain ⟨o, ha, hc⟩ := hc t z
    rcases h with h | ⟨u, h⟩
    · rw [ha] at h; injection h with h; subst h; exact hc
    · rw [ha] at h; injection h with h; subst h; exact hc
  rcases h with h | ⟨u, h⟩
  · exact .inl (by rw [cutS_out ne]; exact h)
  · exact .inr ⟨u, by rw [cutS_out ne]; exact h⟩
mutual
theorem Fz.cutS {v : V} {d : D} (hc : AllC B S) (n : d.noL = true) : Fz K B v d → Fz K (cutS B S) v d
  | .non => .non
  | .bl b => .bl b
  | .int i => .int i
  | .str x => .str x
  | .lst _ _ => by simp [D.noL] at n
  | .tup h hs => .tup (h.imp (fun h => cutS_rd h hc) id) (Fzs.cutS hc (by simpa only [D.noL] using n) hs)
  | .scr _ => by simp [D.noL] at n
  | .dic _ _ _ => by simp [D.noL] at n
  | .dct _ _ _ => by simp [D.noL] at n
  | .obj a => .obj a
  | .key h => .key (by rcases cutS_rd (.inl h) hc with h | ⟨o', h⟩; exact h; exact absurd h (by unfold Dt.cutS; split <;> simp_all))
theorem Fzs.cutS {vs : List V} {ds : List D} (hc : AllC B S) (n : D.noLs ds = true) : Fzs K B vs ds → Fzs K (cutS B S) vs ds
  | .nil => .nil
  | .cons h hs => by
    simp only [D.noLs, Bool.and_eq_true] at n
    exact .cons (Fz.cutS hc n.1 h) (Fzs.cutS hc n.2 hs)
end
theorem Its.cutS {m : Mk} {vs : List V} {ds : List D} {T : List Addr} (k : ∀ v d T, Tr K B H m v d T → lfN m d = true → Tr K (Dt.cutS B S) H m v d T) (h : Its (Tr K B H m) vs ds T) : ds.all (lfN m) = true → Its (Tr K (Dt.cutS B S) H m) vs ds T := by
  induction h with
  | nil => exact fun _ => .nil
  | cons a t ih =>
    intro n
    rw [List.all_cons, Bool.and_eq_true] at n
    exact .cons (k _ _ _ a n.1) (ih n.2)
mutual
theorem Tr.cutS (hc : AllC B S) : ∀ {m : Mk} {v : V} {d : D} {T : List Addr}, Tr K B H m v d T → lfN m d = true → Tr K (cutS B S) H m v d T
  | .z, _, _, _, h, n => by
    unfold Tr at h ⊢
    exact ⟨h.1.cutS hc (by simpa only [lfN] using n), h.2⟩
  | .l m, _, _, _, h, n => by
    unfold Tr at h ⊢
    obtain ⟨a, vs, ds, T, rfl, rfl, b, q, i, rfl⟩ := h
    exact ⟨a, vs, ds, T, rfl, rfl, cutS_n b, q, i.cutS (fun v d T t n => Tr.cutS hc (m := m) t n) (by simpa only [lfN] using n), rfl⟩
  | .t ms, _, _, _, h, n => by
    unfold Tr at h ⊢
    obtain ⟨a, vs, ds, rfl, rfl, b, i⟩ := h
    exact ⟨a, vs, ds, rfl, rfl, cutS_tup b hc, TrT.cutS hc (ms := ms) i (by simpa only [lfN] using n)⟩
theorem TrT.cutS (hc : AllC B S) : ∀ {ms : Mks} {vs : List V} {ds : List D} {T : List Addr}, TrT K B H ms vs ds T → lfT ms ds = true → TrT K (cutS B S) H ms vs ds T
  | .nil, _, _, _, h, _ => by
    unfold TrT at h ⊢
    exact h
  | .cons m r, _, _, _, h, n => by
    unfold TrT at h ⊢
    obtain ⟨v, vs, d, ds, S1, S2, rfl, rfl, t1, t2, rfl⟩ := h
    simp only [lfT, Bool.and_eq_true] at n
    exact ⟨v, vs, d, ds, S1, S2, rfl, rfl, Tr.cutS hc (m := m) t1 n.1, TrT.cutS hc (ms := r) t2 n.2, rfl⟩
end
theorem Ow.cutS {a : Addr} {d : D} (hc : AllC B S) (w : Ow K B H a d) (n : iNoL d = true) : Ow K (cutS B S) H a d := by
  cases d with
  | lst ds => obtain ⟨h, vs, q, f⟩ := w; exact ⟨cutS_n h, vs, q, f.cutS hc n⟩
  | dic ks ds => obtain ⟨h, vs, q, l, f⟩ := w; exact ⟨cutS_n h, vs, q, l, f.cutS hc n⟩
  | dct ks ds => obtain ⟨h, vs, q, l, f⟩ := w; exact ⟨cutS_n h, vs, q, l, f.cutS hc n⟩
  | _ => exact w.elim
theorem Ow.isC {a : Addr} {d : D} (w : Ow K B H a d) : ∃ o, H a = some o ∧ HO.isC o := by
  cases d with
  | lst ds => obtain ⟨h, vs, q, f⟩ := w; exact ⟨_, q, trivial⟩
  | dic ks ds => obtain ⟨h, vs, q, l, f⟩ := w; exact ⟨_, q, trivial⟩
  | dct ks ds => obtain ⟨h, vs, q, l, f⟩ := w; exact ⟨_, q, trivial⟩
  | _ => exact w.elim
mutual
theorem Tr.isC : ∀ {m : Mk} {v : V} {d : D} {T : List Addr}, Tr K B H m v d T → ∀ a ∈ T, ∃ o, H a = some o ∧ HO.isC o
  | .z, _, _, _, h => by
    unfold Tr at h
    rw [h.2]; exact fun a q => nomatch q
  | .l m, _, _, _, h => by
    unfold Tr at h
    obtain ⟨a, vs, ds, T, rfl, rfl, b, q, i, rfl⟩ := h
    intro x hx
    rcases List.mem_cons.mp hx with rfl | hx
    · exact ⟨_, q, trivial⟩
    · exact i.all (fun v d T r => Tr.isC (m := m) r) x hx
  | .t ms, _, _, _, h => by
    unfold Tr at h
    obtain ⟨a, vs, ds, rfl, rfl, b, i⟩ := h
    exact TrT.isC (ms := ms) i
theorem TrT.isC : ∀ {ms : Mks} {vs : List V} {ds : List D} {T : List Addr}, TrT K B H ms vs ds T → ∀ a ∈ T, ∃ o, H a = some o ∧ HO.isC o
  | .nil, _, _, _, h => by
    unfold TrT at h
    rw [h.2.2]; exact fun a q => nomatch q
  | .cons m r, _, _, _, h => by
    unfold TrT at h
    obtain ⟨v, vs, d, ds, S1, S2, rfl, rfl, t1, t2, rfl⟩ := h
    exact fun x hx => (List.mem_append.mp hx).elim (Tr.isC (m := m) t1 x) (TrT.isC (ms := r) t2 x)
end
theorem Ft.isC {v : V} {s : Slot} (h : Ft K B H v s S) : ∀ a ∈ S, ∃ o, H a = some o ∧ HO.isC o := by
  cases s with
  | un => exact h.elim
  | fz _ => exact h.elim
  | ow d => obtain ⟨a, rfl, w, rfl⟩ := h; intro x hx; rw [List.mem_singleton.mp hx]; exact w.isC
  | io d => obtain ⟨a, rfl, w, rfl⟩ := h; intro x hx; rw [List.mem_singleton.mp hx]; exact w.isC
  | dp m d => exact h.1.isC
end
def thG (s0 s : Slot) : Prop := match s with
  | .un => True
  | .fz d => s0 = .fz d ∨ d.noL = true
  | .ow d => iNoL d = true
  | .io d => iNoL d = true
  | .dp m d => lfN m d = true
def thH : List Slot → List Slot → Prop
  | s0 :: r0, s :: r => thG s0 s ∧ thH r0 r
  | [], [] => True
  | _, _ => False
theorem thH_get : ∀ {r0 r : List Slot}, thH r0 r → ∀ {j : Nat} {s : Slot}, r[j]? = some s → ∃ s0, r0[j]? = some s0 ∧ thG s0 s
  | [], [], _, j, s, e => by simp at e
  | [], _ :: _, h, _, _, _ => h.elim
  | _ :: _, [], h, _, _, _ => h.elim
  | s0 :: r0, s1 :: r, h, 0, s, e => by simp at e; subst e; exact ⟨s0, rfl, h.1⟩
  | s0 :: r0, s1 :: r, h, j + 1, s, e => by
    obtain ⟨q, h1, h2⟩ := thH_get h.2 (j := j) (s := s) (by simpa using e)
    exact ⟨q, by simpa using h1, h2⟩
open Classical in
noncomputable def mTh {α : Type} (g : α → Prop) (i : Nat) (f : M α) : M α := fun ρ => match ρ[i]? with
  | some s => if owned s = true then match f (ρ.set i (.fz s.dat)) with
    | .ok b ρ1 => if thH ρ (ρ1.set i .un) ∧ g b then .ok b (ρ1.set i s) else .fail
    | .rz c ρ1 => .rz c ρ1
    | .fail => .fail
    else .fail
  | none => .fail
section
variable {X : Cx} {W : WX} {e : Expr} {i : Nat} {K : PySem.W.Frag} {F : Fr} {ρ ρ1 : Env} {σ : St} {B H B' H' : Hp} {s : Slot} {v : V} {S : List Addr}
theorem Lv.thawC (w : Ft K B H v s S) (eB : Ex (frzB B H S) B') : AllC B' S := fun a ha => by
  obtain ⟨o, q, c⟩ := w.isC a ha
  exact ⟨o, eB a o (by rw [frzB_in ha]; exact q), c⟩
theorem Lv.thawE (L : Lv K F ρ σ B H) (w : Ft K B H v s S) (eB : Ex (frzB B H S) B') : Ex B (cutS B' S) := fun x u q => by
  have ne : x ∉ S := fun z => by rw [(w.hid x z).1] at q; cases q
  rw [cutS_out ne]
  exact eB x u (frzB_ex L.ex x u q)
theorem Ft.cut {s1 : Slot} {T : List Addr} {v : V} {s0 : Slot} (hc : AllC B' S) (t : thG s0 s1) (f : Ft K B' H' v s1 T) : Ft K (cutS B' S) H' v s1 T := by
  cases s1 with
  | un => exact f.elim
  | fz _ => exact f.elim
  | ow d => obtain ⟨b, e1, w, e2⟩ := f; exact ⟨b, e1, w.cutS hc t, e2⟩
  | io d => obtain ⟨b, e1, w, e2⟩ := f; exact ⟨b, e1, w.cutS hc t, e2⟩
  | dp m d => exact ⟨f.1.cutS hc t, f.2⟩
theorem Lv.thawS (L : Lv K F ρ σ B H) (e : ρ[i]? = some s) (hsig : σ[i]? = some (some v)) (w : Ft K B H v s S) (g : ∀ a ∈ S, F.A a ∨ F.H0 a = none)
    (M : Lv K F ρ1 σ B' H') (eB : Ex (frzB B H S) B') (ka : ∀ a ∈ S, ∀ o, H a = some o → H' a = some o) (th : thH ρ (ρ1.set i .un)) :
    Lv K F (ρ1.set i s) σ (cutS B' S) H' ∧ ∀ a, B' a = none → ¬ OwS K B' H' ρ1 σ a → ¬ OwS K (cutS B' S) H' (ρ1.set i s) σ a := by
  have hC := Lv.thawC w eB
  have exB := L.thawE w eB
  have hBS : ∀ a ∈ S, B' a ≠ none := fun a ha => by obtain ⟨o, q, _⟩ := hC a ha; rw [q]; simp
  have exH : Ex (cutS B' S) H' := fun x u q => by
    unfold cutS at q
    split at q
    · cases q
    · exact M.ex x u q
  have li : i < ρ1.length := by
    have h1 := (List.getElem?_eq_some_iff.mp e).1
    rw [L.len] at h1; rw [M.len]; exact h1
  have thj : ∀ {j : Nat} {s : Slot}, j ≠ i → ρ1[j]? = some s → ∃ s0, ρ[j]? = some s0 ∧ thG s0 s := fun {j s} ne q => thH_get th (by rw [List.getElem?_set_ne (Ne.symm ne)]; exact q)
  have wi : Ft K (cutS B' S) H' v s S := w.keep exB (fun a ha => cutS_in ha) ka
  have naS : ∀ {j : Nat} {s : Slot} {v : V} {T : List Addr}, Ft K B' H' v s T → ∀ a ∈ T, a ∉ S := fun f a ha z => hBS a z (f.hid a ha).1
  -- an owned slot under the cut, from behind
  have up : ∀ {j : Nat} {s1 : Slot} {v : V} {T : List Addr}, j ≠ i → ρ1[j]? = some s1 → σ[j]? = some (some v) → Ft K (cutS B' S) H' v s1 T → Ft K B' H' v s1 T := fun {j s1 v T} ne q hs f => by
    obtain ⟨v', T', h1, f', _⟩ := M.own0 j s1 q f.owned
    rw [hs] at h1; injection h1 with h1; injection h1 with h1; subst h1
    obtain ⟨s0, _, t⟩ := thj ne q
    have := f.det (f'.cut hC t)
    rw [this]; exact f'
  refine ⟨⟨exH, M.kept, M.there, L.exB.trans exB, fun x h1 h2 h3 => ?_, fun j d' q => ?_, fun j s1 q ho => ?_, fun j d' q => ?_, fun j k s1 t1 v1 u T1 T2 x q1 q2 g1 g2 f1 f2 m1 m2 => ?_, by rw [List.length_set]; exact M.len⟩, fun a na no h => ?_⟩
  · exact cutS_n (M.hid x h1 h2 h3)
  · rcases get_set q with ⟨rfl, z, _⟩ | ⟨ne, q⟩
    · subst z; exact w.elim
    · obtain ⟨s0, h1, t⟩ := thj ne q
      rcases t with t | t
      · subst t
        obtain ⟨v, h2, f⟩ := L.fz j d' h1
        exact ⟨v, h2, f.mono exB⟩
      · obtain ⟨v, h2, f⟩ := M.fz j d' q
        exact ⟨v, h2, f.cutS hC t⟩
  · rcases get_set q with ⟨rfl, z, _⟩ | ⟨ne, q⟩
    · subst z
      exact ⟨v, S, hsig, wi, g⟩
    · obtain ⟨v, T, h1, f, h2⟩ := M.own0 j s1 q ho
      obtain ⟨s0, _, t⟩ := thj ne q
      exact ⟨v, T, h1, f.cut hC t, h2⟩
  · rcases get_set q with ⟨rfl, z, _⟩ | ⟨ne, q⟩
    · subst z; exact L.io j d' e
    · exact M.io j d' q
  · rcases get_set q1 with ⟨rfl, z, _⟩ | ⟨ne, q1'⟩
    · rcases get_set q2 with ⟨rfl, z2, _⟩ | ⟨ne2, q2'⟩
      · rfl
      · rw [hsig] at g1; injection g1 with g1; injection g1 with g1; subst g1
        rw [z] at f1
        rw [f1.det wi] at m1
        exact absurd m1 (naS (j := k) (up ne2 q2' g2 f2) x m2)
    · rcases get_set q2 with ⟨z0, z, _⟩ | ⟨ne2, q2'⟩
      · subst z0
        rw [hsig] at g2; injection g2 with g2; injection g2 with g2; subst g2
        rw [z] at f2
        rw [f2.det wi] at m2
        exact absurd m2 (naS (j := j) (up ne q1' g1 f1) x m1)
      · exact M.ne0 j k s1 t1 v1 u T1 T2 x q1' q2' g1 g2 (up ne q1' g1 f1) (up ne2 q2' g2 f2) m1 m2
  · obtain ⟨j, s1, v1, T, q, hs, f, m⟩ := h
    rcases get_set q with ⟨rfl, z, _⟩ | ⟨ne, q⟩
    · subst z
      rw [hsig] at hs; injection hs with hs; injection hs with hs; subst hs
      rw [f.det wi] at m
      exact hBS a m na
    · exact no ⟨j, s1, v1, T, q, hs, up ne q hs f, m⟩
structure Thd (K : PySem.W.Frag) (F F' : Fr) (ρ1 ρ2 : Env) (σ : St) (B B' B2 H' : Hp) (S : List Addr) : Prop where
  eq : B2 = cutS B' S
  ex : Ex B B2
  hc : AllC B' S
  no : ∀ a, B' a = none → ¬ OwS K B' H' ρ1 σ a → ¬ OwS K B2 H' ρ2 σ a
  fr : ∀ a, F'.A a ∨ F'.H0 a = none → F.A a ∨ F.H0 a = none
  P : F'.P = F.P
theorem Post.thaw {α : Type} {g : α → Prop} {f : M α} {G : α → Env → Hp → Hp → Prop} (L : Lv X.K F ρ σ B H) (P : Post X W F σ B (mTh g i f ρ) G) :
    ∃ F' B1 ρ0, Lv X.K F' ρ0 σ B1 H ∧ Post X W F' σ B1 (f ρ0) (fun b ρ1 B' H' => g b ∧ ∃ S ρ2 B2, Thd X.K F F' ρ1 ρ2 σ B B' B2 H' S ∧ G b ρ2 B2 H') := by
  unfold mTh at P
  split at P
  · rename_i s e1
    split at P
    · rename_i ow
      obtain ⟨v, S, hsig, w, g0⟩ := L.own0 i s e1 ow
      obtain ⟨v0, S0, q0, f0, g0', no0, L1⟩ := L.take e1 ow
      rw [hsig] at q0; injection q0 with q0; injection q0 with q0; subst q0
      have eS : S0 = S := f0.det w
      subst eS
      have hf : Fz X.K (frzB B H S0) v s.dat := by
        have flt : ∀ {a : Addr} {d : D}, v = .ref a → Ow X.K B H a d → S0 = [a] → Fz X.K (frzB B H S0) v d := by
          intro a d e1 w1 e2
          subst e1; subst e2
          obtain ⟨o, h1, h2⟩ := w1.fz
          refine h2.mono fun b u hb => ?_
          by_cases z : b = a
          · subst z; rw [upd_same] at hb; rw [frzB_in (by simp), h1]; exact hb
          · rw [upd_ne z] at hb; rw [frzB_out (by simpa using z)]; exact hb
        cases s with
        | un => cases ow
        | fz _ => cases ow
        | ow d => obtain ⟨a, e1, w1, e2⟩ := w; exact flt e1 w1 e2
        | io d => obtain ⟨a, e1, w1, e2⟩ := w; exact flt e1 w1 e2
        | dp m d => exact w.1.fz L.ex fun a m => m
      have L2 : Lv X.K F (ρ.set i (.fz s.dat)) σ (frzB B H S0) H := by
        have h1 := L1.freezeS g0 no0
        have h2 := h1.slot (i := i) (t := .fz s.dat) rfl (fun d' z _ => by injection z with z; subst z; exact ⟨_, hsig, hf⟩)
        rw [List.set_set] at h2
        exact h2
      have nA : ∀ a ∈ S0, ¬ OwS X.K (frzB B H S0) H (ρ.set i (.fz s.dat)) σ a := fun a ha z => by
        have := (L2.hidOw z).1
        rw [frzB_in ha] at this
        exact (w.hid a ha).2.ne this
      refine ⟨_, _, _, L2.nest, ?_⟩
      cases q : f (ρ.set i (.fz s.dat)) with
      | fail => simp only [q] at P; exact P.elim
      | rz c ρ1 =>
        simp only [q] at P
        exact fun B' H' eB M => P B' H' ((frzB_ex L.ex).trans eB) (L2.back M)
      | ok b ρ1 =>
        simp only [q] at P
        split at P
        · rename_i th
          intro B' H' eB M
          have ka : ∀ a ∈ S0, ∀ o, H a = some o → H' a = some o := fun a ha o q => M.kept a o q (nA a ha)
          obtain ⟨x2, x3⟩ := L.thawS e1 hsig w g0 (L2.back M) eB ka th.1
          exact ⟨th.2, S0, _, _, ⟨rfl, L.thawE w eB, Lv.thawC w eB, x3, fun a h => h.elim (fun h => L2.ofOw h) (fun h => .inr (L2.free h)), rfl⟩, P _ H' (L.thawE w eB) x2⟩
        · exact P.elim
    · exact P.elim
  · exact P.elim
def thV (d : D) : Prop := d.noL = true
theorem ev_th (i : Nat) {f : M D} (h : EV X W e f) : EV X W e (mTh thV i f) := by
  intro F ρ σ B H Q L P
  obtain ⟨F', B1, ρ0, L1, P1⟩ := Post.thaw L P
  exact h F' ρ0 σ B1 H Q L1 (P1.imp fun b ρ1 B' H' e M hG v fv => by
    obtain ⟨n, S, ρ2, B2, t, hG⟩ := hG
    obtain ⟨rfl, _, hc, _⟩ := t
    exact hG v (fv.cutS hc n))
end
section
variable {X : Cx} {W : WX} {e : Expr} {pos : Pos}
end
section
variable {ρ ρ1 ρ2 : Env} {i n : Nat} {α β : Type} {b : α}
theorem t_th {g : α → Prop} {f : M α} {s : Slot} (h : ρ[i]? = some s) (ow : owned s = true) (hf : f (ρ.set i (.fz s.dat)) = .ok b ρ1) (th : thH ρ (ρ1.set i .un)) (hg : g b) (hr : ρ1.set i s = ρ2) : mTh g i f ρ = .ok b ρ2 := by
  unfold mTh
  rw [h]; dsimp only; rw [if_pos ow, hf]; dsimp only; rw [if_pos ⟨th, hg⟩, hr]
end
end Dt
namespace Dt
open PySem PySem.Spec PyProof.Rows L2
section
variable {ρ ρ1 ρ2 ρ3 ρ4 ρ5 : Env} {i : Nat} {α β γ δ : Type} {F : α → D} {G : β → D} {J : γ → D} {L : δ → D}
end
end Dt
namespace Dt
open PySem PySem.Spec PyProof.Rows L2
end Dt
namespace Dt
open PySem PySem.Spec PyProof.Rows L2
section
variable {X : Cx} {W : WX} {i : Nat} {a : Addr} {pos : Pos}
end
theorem xec_nil {K : PySem.W.Frag} {mg : Str → Option Value} : ∀ c ∈ ([] : List Str), XeC K mg c := fun c h => absurd h List.not_mem_nil
theorem xec_cons {K : PySem.W.Frag} {mg : Str → Option Value} {c : Str} {ks : List Str} (h : XeC K mg c) (r : ∀ c ∈ ks, XeC K mg c) : ∀ x ∈ c :: ks, XeC K mg x := fun x hx => by
  rcases List.mem_cons.mp hx with rfl | hx
  · exact h
  · exact r x hx
section
variable {α β : Type} {ρ ρ1 ρ2 ρ' : Env} {c : Str}
def JZs (ρ1 : Env) (c : Str) (r : Rs Fl) (_ : Unit) : Prop := r = .rz c ρ1
theorem isE {tk : List Str} : mIsE c tk ρ = .ok (.bl (decide (c ∈ tk))) ρ := rfl
theorem bdc {τ : Type} {J : Rs Fl → β → Prop} {v : τ} {S : τ → Prop} {b : τ → β} {r : Rs Fl} (hs : bd v S) (hk : ∀ c, S c → J r (b c)) : J r (bd v b) := hk v hs
theorem rtE {f : M D} {d : D} (h : f ρ = .ok d ρ1) : mRet (mOf f) ρ = .ok (.rt d .ff) ρ1 := by unfold mRet mOf M.bind; rw [h]; rfl
end
end Dt
namespace Dt
open PySem L2 Std
structure ShB (n w : Nat) (d : D) : Prop where
  lay : d.py.canLay0 = true
  dep : d.py.depth ≤ n
  shr : d.py.intsShort 600 = true
  shw : d.py.showable = true
  wei : d.py.weight ≤ w
structure ShBs (n w : Nat) (ds : List D) : Prop where
  lay : PyData.canLayAll0 (D.pys ds) = true
  dep : PyData.depthAll (D.pys ds) ≤ n
  shr : PyData.intsShortAll 600 (D.pys ds) = true
  shw : PyData.showableAll (D.pys ds) = true
  wei : PyData.weightAll (D.pys ds) ≤ w
theorem ShB.mono {n m w u : Nat} {d : D} (h : ShB n w d) (h1 : n ≤ m) (h2 : w ≤ u) : ShB m u d := ⟨h.lay, Nat.le_trans h.dep h1, h.shr, h.shw, Nat.le_trans h.wei h2⟩
theorem shB_int {i : Int} {b : Nat} (h : i.natAbs < 2 ^ b) (hb : b ≤ 1900) : ShB 0 b (.int i) := by
  have l : i.natAbs ≠ 0 → i.natAbs.log2 < b := fun hz => (Nat.log2_lt hz).mpr h
  have h2 : i.natAbs < 10 ^ 580 := Nat.lt_of_lt_of_le h (Nat.le_trans (Nat.pow_le_pow_right (by decide) hb) (by decide +kernel))
  refine ⟨rfl, Nat.le_refl 0, ?_, ?_, ?_⟩
  · have e := int_text_length_le10 (k := 580) (by decide) h2
    show decide _ = true
    refine decide_eq_true ?_
    show (Str.ofString (toString i)).length ≤ 600
    rw [ofString_length]
    exact Nat.le_trans e (by decide)
  · show decide (i.natAbs.log2 < 1920) = true
    refine decide_eq_true ?_
    by_cases z : i.natAbs = 0
    · rw [z]; decide
    · have := l z; omega
  · show (if i == 0 then 0 else i.natAbs.log2 + 1) ≤ b
    split
    · omega
    · rename_i hz
      have : i ≠ 0 := by simpa using hz
      have := l (by omega)
      omega
theorem shB_str {x : Str} (h : PyData.strOk x = true) : ShB 0 x.cps.size (.str x) := ⟨h, Nat.le_refl 0, rfl, rfl, Nat.le_refl _⟩
theorem shBs_of {n w : Nat} : ∀ {ds : List D}, (∀ d ∈ ds, ShB n w d) → ShBs n (ds.length * (w + 1)) ds
  | [], _ => ⟨by simp [D.pys, PyData.canLayAll0], by simp [D.pys, PyData.depthAll], by simp [D.pys, PyData.intsShortAll], by simp [D.pys, PyData.showableAll], by simp [D.pys, PyData.weightAll]⟩
  | d :: r, h => by
    have a := h d (by simp)
    have b := shBs_of (ds := r) (fun e he => h e (List.mem_cons_of_mem _ he))
    refine ⟨by simp [D.pys, PyData.canLayAll0, a.lay, b.lay], ?_, by simp [D.pys, PyData.intsShortAll, a.shr, b.shr], by simp [D.pys, PyData.showableAll, a.shw, b.shw], ?_⟩
    · have a1 := a.dep
      have b1 := b.dep
      simp only [D.pys, PyData.depthAll]; omega
    · have a1 := a.wei
      have b1 := b.wei
      simp only [D.pys, PyData.weightAll, List.length_cons, Nat.succ_mul]; omega
theorem shBs_nil : ShBs 0 0 [] := ⟨by simp [D.pys, PyData.canLayAll0], by simp [D.pys, PyData.depthAll], by simp [D.pys, PyData.intsShortAll], by simp [D.pys, PyData.showableAll], by simp [D.pys, PyData.weightAll]⟩
theorem shBs_cons {n w n' w' : Nat} {d : D} {r : List D} (a : ShB n w d) (b : ShBs n' w' r) : ShBs (max n n') (w + 1 + w') (d :: r) := by
  refine ⟨by simp [D.pys, PyData.canLayAll0, a.lay, b.lay], ?_, by simp [D.pys, PyData.intsShortAll, a.shr, b.shr], by simp [D.pys, PyData.showableAll, a.shw, b.shw], ?_⟩
  · have a1 := a.dep
    have b1 := b.dep
    simp only [D.pys, PyData.depthAll]; omega
  · have a1 := a.wei
    have b1 := b.wei
    simp only [D.pys, PyData.weightAll]; omega
theorem shB_lst {n w : Nat} {ds : List D} (h : ShBs n w ds) : ShB (n + 1) w (.lst ds) := by
  refine ⟨by simp [D.py, PyData.canLay0, h.lay], ?_, by simp [D.py, PyData.intsShort, h.shr], by simp [D.py, PyData.showable, h.shw], ?_⟩
  · have := h.dep
    simp only [D.py, PyData.depth]; omega
  · have := h.wei
    simp only [D.py, PyData.weight]; omega
theorem shB_tup {n w : Nat} {ds : List D} (h : ShBs n w ds) : ShB (n + 1) w (.tup ds) := by
  refine ⟨by simp [D.py, PyData.canLay0, h.lay], ?_, by simp [D.py, PyData.intsShort, h.shr], by simp [D.py, PyData.showable, h.shw], ?_⟩
  · have := h.dep
    simp only [D.py, PyData.depth]; omega
  · have := h.wei
    simp only [D.py, PyData.weight]; omega
theorem showsB_of {n w : Nat} {d : D} (h : ShB n w d) (h1 : n ≤ 60) (h2 : w ≤ 20000) : shows d = true := by
  have e0 := PyData.shown_le 600 (by decide) d.py (PyData.leavesShort_of_canLay0 600 d.py h.lay h.shr)
  have e4 : (600 + 2) * d.py.weight ≤ (600 + 2) * 20000 := Nat.mul_le_mul_left _ (Nat.le_trans h.wei h2)
  have e1 : d.py.shown.length ≤ sizeLine := by
    rw [sizeLine_eq]; omega
  have e2 := PyData.hasDict_of_canLay d.py h.lay
  have e3 : d.py.depth ≤ 60 := Nat.le_trans h.dep h1
  unfold shows
  simp [h.shw, e1, e2, e3]
theorem shBE_L {α : Type} {F : α → D} {n w : Nat} {xs : List α} (h : ∀ x ∈ xs, ShB n w (F x)) : ShB (n + 1) (xs.length * (w + 1)) (eL F xs) := by
  have := shB_lst (shBs_of (ds := xs.map F) (fun d hd => by obtain ⟨x, hx, rfl⟩ := List.mem_map.mp hd; exact h x hx))
  rw [List.length_map] at this
  exact this
theorem shBE_2 {α β : Type} {F : α → D} {G : β → D} {n w n2 w2 : Nat} {p : α × β} (h1 : ShB n w (F p.1)) (h2 : ShB n2 w2 (G p.2)) : ShB (max n n2 + 1) (w + w2 + 2) (eT2 F G p) :=
  (shB_tup (shBs_cons h1 (shBs_cons h2 shBs_nil))).mono (by omega) (by omega)
theorem shBE_3 {α β γ : Type} {F : α → D} {G : β → D} {H : γ → D} {n w n2 w2 n3 w3 : Nat} {p : α × β × γ} (h1 : ShB n w (F p.1)) (h2 : ShB n2 w2 (G p.2.1)) (h3 : ShB n3 w3 (H p.2.2)) : ShB (max n (max n2 n3) + 1) (w + w2 + w3 + 3) (eT3 F G H p) :=
  (shB_tup (shBs_cons h1 (shBs_cons h2 (shBs_cons h3 shBs_nil)))).mono (by omega) (by omega)
theorem shBE_4 {α β γ δ : Type} {F : α → D} {G : β → D} {H : γ → D} {K : δ → D} {n w n2 w2 n3 w3 n4 w4 : Nat} {p : α × β × γ × δ} (h1 : ShB n w (F p.1)) (h2 : ShB n2 w2 (G p.2.1)) (h3 : ShB n3 w3 (H p.2.2.1)) (h4 : ShB n4 w4 (K p.2.2.2)) : ShB (max n (max n2 (max n3 n4)) + 1) (w + w2 + w3 + w4 + 4) (eT4 F G H K p) :=
  (shB_tup (shBs_cons h1 (shBs_cons h2 (shBs_cons h3 (shBs_cons h4 shBs_nil))))).mono (by omega) (by omega)
end Dt
namespace Dt
open PySem PySem.Spec PyProof.Rows L2
theorem Quiet.mark {P : Program} {base : Heap} {A : Around} {v : Option Value} (q : Quiet P base A) : Quiet P base (A.mark v) := ⟨⟨q.g, q.s, q.t⟩, by
  obtain ⟨env, l, h, r⟩ := q.f
  exact ⟨env, l, h, r⟩⟩
theorem mark_un {A : Around} {v : Option Value} {n m : Nat} (h : A.units + n < m) : (A.mark v).units + n < m := by
  rw [Around.mark_units]; exact h
end Dt
namespace Raw
open L2 Dt
open PySem (Str)
open Std (sz)
instance instPE : Inhabited PE := ⟨.inr 0⟩
def qp (q : Rat) : P2 := (q.num, (q.den : Int))
theorem e__law_fraction {a b : Int} (h : 0 < b) : Std.fn__law_fraction [D.int a, D.int b] = .ok (eP (qp (Rat.divInt a b))) .ff .non := Std.e__law_fraction h
theorem e_made_net {v_lines : List RLine} {v_stands : List RStand} {v_comers : RCom} (h : HomC v_comers ∧ gN v_lines v_stands v_comers = true) : Net.fn_made_net [eL eRLine v_lines, eL eRStand v_stands, eRCom v_comers] = .ok (eRNet (v_lines, v_stands, v_comers)) .ff .non := made_ok h.1 h.2
def peI : PE → Int
  | .inl _ => 0
  | .inr i => i
section
variable {ρ ρ1 : Dt.Env} {f : M D}
theorem cPEI {x : PE} (h : f ρ = .ok (ePE x) ρ1) (k : x.isRight = true) : f ρ = .ok (.int (peI x)) ρ1 := by
  cases x with
  | inl p => cases k
  | inr i => exact h
theorem eL_I (xs : List Int) : eL ePE (xs.map Sum.inr) = eL D.int xs := by unfold eL; rw [List.map_map]; rfl
theorem eL_P (xs : List P2) : eL ePE (xs.map Sum.inl) = eL eP xs := by unfold eL; rw [List.map_map]; rfl
theorem cLI {xs : List Int} (h : f ρ = .ok (eL D.int xs) ρ1) : f ρ = .ok (eL ePE (xs.map Sum.inr)) ρ1 := by rw [eL_I]; exact h
theorem cLP {xs : List P2} (h : f ρ = .ok (eL eP xs) ρ1) : f ρ = .ok (eL ePE (xs.map Sum.inl)) ρ1 := by rw [eL_P]; exact h
theorem cPEL {xs : List PE} (h : f ρ = .ok (eL ePE xs) ρ1) (k : ∀ x ∈ xs, x.isRight = true) : f ρ = .ok (eL D.int (xs.map peI)) ρ1 := by
  rw [h]
  congr 1
  unfold eL
  rw [List.map_map]
  congr 1
  refine List.map_congr_left fun x hx => ?_
  have := k x hx
  cases x with
  | inl p => cases this
  | inr i => rfl
end
end Raw
namespace Net
open L2 Dt
def r_made_net (v_lines : List Raw.RLine) (v_stands : List Raw.RStand) (v_comers : Raw.RCom) (c : PySem.Str) : Prop := c = "NoNet" ∧ Raw.HomC v_comers ∧ Raw.gN v_lines v_stands v_comers = false
theorem x_made_net {v_lines : List Raw.RLine} {v_stands : List Raw.RStand} {v_comers : Raw.RCom} {c : PySem.Str} (h : r_made_net v_lines v_stands v_comers c) : fn_made_net [eL Raw.eRLine v_lines, eL Raw.eRStand v_stands, Raw.eRCom v_comers] = .rz c := by
  obtain ⟨rfl, h1, h2⟩ := h
  exact Raw.made_no h1 h2
end Net
namespace Law
open PySem L2 Dt Std Net Look
theorem smq_div {a b : Int} (h0 : 0 ≤ a) (h1 : a ≤ 1000) (h2 : 0 < b) (h3 : b ≤ 1000) : SmQ (Rat.divInt a b) := by
  refine ⟨?_, ?_, ?_⟩
  · rw [num_div, Int.sign_eq_one_of_pos h2, Int.one_mul]
    exact Int.ediv_nonneg h0 (by omega)
  · rw [num_div, Int.sign_eq_one_of_pos h2, Int.one_mul]
    exact Int.le_trans (Int.ediv_le_self _ h0) h1
  · rw [den_div (by omega)]
    exact Nat.le_trans (Nat.div_le_self _ _) (by omega)
theorem divI_le {a b c : Int} (h : a ≤ b) (hc : 0 < c) : Rat.divInt a c ≤ Rat.divInt b c := by
  rw [Rat.divInt_eq_div, Rat.divInt_eq_div, Rat.div_def, Rat.div_def]
  exact Rat.mul_le_mul_of_nonneg_right (Rat.intCast_le_intCast.mpr h) (Rat.le_of_lt (Rat.inv_pos.mpr (Rat.intCast_pos.mpr hc)))
theorem divI_pos {a b : Int} (ha : 0 < a) (hb : 0 < b) : 0 < Rat.divInt a b := by
  rw [Rat.divInt_eq_div, Rat.div_def]
  exact Rat.mul_pos (Rat.intCast_pos.mpr ha) (Rat.inv_pos.mpr (Rat.intCast_pos.mpr hb))
theorem divI_add {a b c : Int} : Rat.divInt a c + Rat.divInt b c = Rat.divInt (a + b) c := by
  rw [Rat.divInt_eq_div, Rat.divInt_eq_div, Rat.divInt_eq_div, Rat.intCast_add]; grind
end Law
namespace Thru
open PySem L2 Dt Std Net Look Law
theorem ix_set {α : Type} [Inhabited α] {xs : List α} {i j : Nat} {v : α} (hi : i < xs.length) (hj : j < xs.length) : ix (setI xs (i : Int) v) (j : Int) = if i = j then v else ix xs (j : Int) := by
  have e1 : ixN' xs.length (i : Int) = i := by unfold ixN'; rw [if_neg (by omega)]; rfl
  have e2 : ixN' xs.length (j : Int) = j := by unfold ixN'; rw [if_neg (by omega)]; rfl
  unfold ix setI
  rw [List.length_set, e1, e2, List.getD_eq_getElem?_getD, List.getD_eq_getElem?_getD]
  split
  · rename_i h; subst h; rw [List.getElem?_set_self hi]; rfl
  · rename_i h; rw [List.getElem?_set_ne h]
end Thru
namespace DrC
open PySem L2 Dt Std Net Look Law Thru Turn
section
variable {gr : List Int} {n : Nat}
theorem fst_get {l : List Int} {x : Int} (h : x ∈ l) : ∃ q : fstI l x < l.length, l[fstI l x] = x := by
  obtain ⟨a, _⟩ := fstI_at h
  exact List.getElem?_eq_some_iff.mp a
end
section
variable {n : Nat} {gr : List Int} {ma : List Stand} {ls : List Line} {c : Com}
end
end DrC
namespace Dt
open PySem PySem.Spec PyProof.Rows L2
section
variable {α : Type} {F : α → D} {ρ ρ1 ρ2 ρ3 ρ4 ρ5 : Env} {i : Nat}
end
section
variable {n : Nat} {α β γ δ : Type} {F : α → D} {G : β → D} {H : γ → D} {K : δ → D}
end
set_option synthInstance.maxSize 1000 in
set_option synthInstance.maxHeartbeats 400000 in
instance decMea : DecidableEq (List (Rat × Rat × Option Rat) × List (Rat × Rat) × Rat × Rat × Rat × Rat) := inferInstance
end Dt
namespace K04
open PySem PySem.Spec PyProof.Rows L2 Dt
noncomputable def fb__law_line : M Fl :=
  mSeq (mSet 2 (mLst (mCons (mBin dAdd (M.pure (.int 1)) (mFz (mCallN 2 (some 0) Std.fn__law_take (xS 0 (xV (M.pure (.int 6)) xNil))))) mNil)))
    (mSeq (mFor (mRange1 (mCons (mBin dAdd (M.pure (.int 1)) (mFz (mCallN 2 (some 0) Std.fn__law_take (xS 0 (xV (M.pure (.int 3)) xNil))))) mNil)) (gN 3) (mSeq (mApp1 2 (mBin dAdd (mBin dAdd (mPeek 2 (mUn dNeg (M.pure (.int 1)))) (M.pure (.int 1))) (mFz (mCallN 2 (some 0) Std.fn__law_take (xS 0 (xV (M.pure (.int 3)) xNil))))))
    (mSeq (mKill [3]) mNx)))
    (mSeq (mSet 4 (mOf (mBin dAdd (M.pure (.int 1)) (mFz (mCallN 2 (some 0) Std.fn__law_take (xS 0 (xV (M.pure (.int 3)) xNil)))))))
    (mSeq (mSet 5 (mOf (M.pure (.int 0))))
    (mSeq (mSet 6 (mOf (M.pure (.str ""))))
    (mSeq (mIf (mTest (mBin dEq (mVar 1) (M.pure (.str "tight")))) (mSeq (mSet 5 (mOf (mBin dAdd (M.pure (.int 1)) (mFz (mCallN 2 (some 0) Std.fn__law_take (xS 0 (xV (M.pure (.int 9)) xNil)))))))
    (mSeq (mSet 6 (mOf (mBin dIx (mFz (mLst (mCons (M.pure (.str "stay")) (mCons (M.pure (.str "lose")) (mCons (M.pure (.str "skip")) mNil))))) (mFz (mCallN 2 (some 0) Std.fn__law_take (xS 0 (xV (M.pure (.int 3)) xNil)))))))
    mNx)) mNx)
    (mSeq (mFrz 2)
    (mRet (mOf (mTup (mCons (mFz (mLc [7] (mIter (mVar 2)) (gN 7) (M.pure true) (mFz (mCallN 2 none Std.fn__law_fraction (xV (mVar 7) (xV (mVar 4) xNil)))))) (mCons (mTup (mCons (M.pure (.int 0)) (mCons (M.pure (.int 1)) mNil))) (mCons (mVar 5) (mCons (mVar 6) mNil)))))))))))))
noncomputable def fn__law_line : List D → Rf := runF (some 0) 8 fb__law_line
noncomputable def t__law_line (v_stream_here : Std.Stm) (v_kind : Str) : (((List (Int × Int)) × (Int × Int) × Int × Str) × Std.Stm) :=
  bd ((Std.t__law_take v_stream_here ((6 : Int))).2, ([((1 : Int) + (Std.t__law_take v_stream_here ((6 : Int))).1)] : List Int)) (fun (z1 : (Std.Stm × (List Int))) => bd ((rangeI 0 (((1 : Int) + (Std.t__law_take z1.1 ((3 : Int))).1))).foldl (fun (z2 : (Std.Stm × (List Int))) (xv3 : Int) => bd ((Std.t__law_take z2.1 ((3 : Int))).2, (z2.2 ++ [(((ix z2.2 ((-(1 : Int)))) + (1 : Int)) + (Std.t__law_take z2.1 ((3 : Int))).1)])) (fun (z4 : (Std.Stm × (List Int))) => (z4.1, z4.2))) ((Std.t__law_take z1.1 ((3 : Int))).2, z1.2)) (fun (z5 : (Std.Stm × (List Int))) => bd ((Std.t__law_take z5.1 ((3 : Int))).2, ((1 : Int) + (Std.t__law_take z5.1 ((3 : Int))).1)) (fun (z6 : (Std.Stm × Int)) => bd (0 : Int) (fun (v_room_7 : Int) => bd ("" : Str) (fun (v_rule_8 : Str) => bd (cond (decide (v_kind = ("tight" : Str))) (bd ((Std.t__law_take z6.1 ((9 : Int))).2, ((1 : Int) + (Std.t__law_take z6.1 ((9 : Int))).1)) (fun (z11 : (Std.Stm × Int)) => bd ((Std.t__law_take z11.1 ((3 : Int))).2, (ix (([("stay" : Str), ("lose" : Str), ("skip" : Str)] : List Str)) ((Std.t__law_take z11.1 ((3 : Int))).1))) (fun (z12 : (Std.Stm × Str)) => (z12.1, z11.2, z12.2)))) (z6.1, v_room_7, v_rule_8)) (fun (z14 : (Std.Stm × Int × Str)) => (((z5.2.map (fun (xv15 : Int) => (Raw.qp (Rat.divInt xv15 z6.2)))), ((0 : Int), (1 : Int)), z14.2.1, z14.2.2), z14.1)))))))
def s__law_line (v_stream_here : Std.Stm) (v_kind : Str) : Prop :=
  bd ((Std.t__law_take v_stream_here ((6 : Int))).2, ([((1 : Int) + (Std.t__law_take v_stream_here ((6 : Int))).1)] : List Int)) (fun (z1 : (Std.Stm × (List Int))) => ((-100000000 < (((1 : Int) + (Std.t__law_take z1.1 ((3 : Int))).1)) ∧ (((1 : Int) + (Std.t__law_take z1.1 ((3 : Int))).1)) < 100000000) ∧ (sfl (fun (z2 : (Std.Stm × (List Int))) (xv3 : Int) => bd ((Std.t__law_take z2.1 ((3 : Int))).2, (z2.2 ++ [(((ix z2.2 ((-(1 : Int)))) + (1 : Int)) + (Std.t__law_take z2.1 ((3 : Int))).1)])) (fun (z4 : (Std.Stm × (List Int))) => (z4.1, z4.2))) (fun (z2 : (Std.Stm × (List Int))) (xv3 : Int) => ((InB z2.2.length ((-(1 : Int)))) ∧ (z2.2.length < 10000))) (rangeI 0 (((1 : Int) + (Std.t__law_take z1.1 ((3 : Int))).1))) ((Std.t__law_take z1.1 ((3 : Int))).2, z1.2)) ∧ (bd ((rangeI 0 (((1 : Int) + (Std.t__law_take z1.1 ((3 : Int))).1))).foldl (fun (z2 : (Std.Stm × (List Int))) (xv3 : Int) => bd ((Std.t__law_take z2.1 ((3 : Int))).2, (z2.2 ++ [(((ix z2.2 ((-(1 : Int)))) + (1 : Int)) + (Std.t__law_take z2.1 ((3 : Int))).1)])) (fun (z4 : (Std.Stm × (List Int))) => (z4.1, z4.2))) ((Std.t__law_take z1.1 ((3 : Int))).2, z1.2)) (fun (z5 : (Std.Stm × (List Int))) => bd ((Std.t__law_take z5.1 ((3 : Int))).2, ((1 : Int) + (Std.t__law_take z5.1 ((3 : Int))).1)) (fun (z6 : (Std.Stm × Int)) => bd (0 : Int) (fun (v_room_7 : Int) => bd ("" : Str) (fun (v_rule_8 : Str) => (((decide (v_kind = ("tight" : Str))) = true → bd ((Std.t__law_take z6.1 ((9 : Int))).2, ((1 : Int) + (Std.t__law_take z6.1 ((9 : Int))).1)) (fun (z11 : (Std.Stm × Int)) => (InB (([("stay" : Str), ("lose" : Str), ("skip" : Str)] : List Str)).length ((Std.t__law_take z11.1 ((3 : Int))).1)))) ∧ (bd (cond (decide (v_kind = ("tight" : Str))) (bd ((Std.t__law_take z6.1 ((9 : Int))).2, ((1 : Int) + (Std.t__law_take z6.1 ((9 : Int))).1)) (fun (z11 : (Std.Stm × Int)) => bd ((Std.t__law_take z11.1 ((3 : Int))).2, (ix (([("stay" : Str), ("lose" : Str), ("skip" : Str)] : List Str)) ((Std.t__law_take z11.1 ((3 : Int))).1))) (fun (z12 : (Std.Stm × Str)) => (z12.1, z11.2, z12.2)))) (z6.1, v_room_7, v_rule_8)) (fun (z14 : (Std.Stm × Int × Str)) => ((∀ xv15 ∈ z5.2, ((0 < z6.2))) ∧ (z5.2.length ≤ 10000))))))))))))
theorem e__law_line {v_stream_here : Std.Stm} {v_kind : Str} (h : s__law_line v_stream_here v_kind) : fn__law_line [Std.eStm v_stream_here, D.str v_kind] = .ok ((eT4 (eL (eT2 D.int D.int)) (eT2 D.int D.int) D.int D.str) (t__law_line v_stream_here v_kind).1) .ff (Std.eStm (t__law_line v_stream_here v_kind).2) := by
  refine runI (F := (eT4 (eL (eT2 D.int D.int)) (eT2 D.int D.int) D.int D.str)) (G := Std.eStm) (o := .ff) (fb := fb__law_line) (x := t__law_line v_stream_here v_kind) ?_
  show JI 0 (eT4 (eL (eT2 D.int D.int)) (eT2 D.int D.int) D.int D.str) Std.eStm .ff (fb__law_line [.io (Std.eStm v_stream_here), .fz (D.str v_kind), .un, .un, .un, .un, .un, .un]) _
  delta fb__law_line t__law_line
  delta s__law_line at h
  exact sqB (ctx := fun (z1 : (Std.Stm × (List Int))) => [.io (Std.eStm z1.1), .fz (D.str v_kind), .ow ((eL D.int) z1.2), .un, .un, .un, .un, .un]) (sSetO (mlst (a1 (b2 rfl (mfz (cN (x1s (i := 0) rfl rfl (x1 rfl x0)) rfl rfl (Std.e__law_take (s := v_stream_here) (most := (6 : Int)) (show 0 < ((6 : Int)) by decide) :) rfl)) rfl) a0)) rfl) h (fun z1 h => sqB (ctx := fun (z5 : (Std.Stm × (List Int))) => [.io (Std.eStm z5.1), .fz (D.str v_kind), .ow ((eL D.int) z5.2), .un, .un, .un, .un, .un]) (forN (F := D.int) (ctx := fun (z2 : (Std.Stm × (List Int))) => [.io (Std.eStm z2.1), .fz (D.str v_kind), .ow ((eL D.int) z2.2), .un, .un, .un, .un, .un]) (i_r1 (a1 (b2 rfl (mfz (cN (x1s (i := 0) rfl rfl (x1 rfl x0)) rfl rfl (Std.e__law_take (s := z1.1) (most := (3 : Int)) (show 0 < ((3 : Int)) by decide) :) rfl)) rfl) a0) h.1) h.2.1 (fun z2 xv3 h => ⟨_, rfl, sqB (ctx := fun (z4 : (Std.Stm × (List Int))) => [.io (Std.eStm z4.1), .fz (D.str v_kind), .ow ((eL D.int) z4.2), zI xv3, .un, .un, .un, .un]) (S := fun _ => True) (sApp (i := 2) (F := D.int) (xs := z2.2) (v := (((ix z2.2 ((-(1 : Int)))) + (1 : Int)) + (Std.t__law_take z2.1 ((3 : Int))).1)) (b2 (b2 (pk (i := 2) (F := D.int) (xs := z2.2) rfl (u1 rfl rfl) rfl h.1) rfl rfl) (mfz (cN (x1s (i := 0) rfl rfl (x1 rfl x0)) rfl rfl (Std.e__law_take (s := z2.1) (most := (3 : Int)) (show 0 < ((3 : Int)) by decide) :) rfl)) rfl) ⟨_, rfl⟩ rfl h.2 rfl) trivial (fun z4 _ => sq (sKill (show _ = [.io (Std.eStm z4.1), .fz (D.str v_kind), .ow ((eL D.int) z4.2), .un, .un, .un, .un, .un] from rfl)) rfl)⟩)) h.2.2 (fun z5 h => sqB (ctx := fun (z6 : (Std.Stm × Int)) => [.io (Std.eStm z6.1), .fz (D.str v_kind), .ow ((eL D.int) z5.2), .un, zI z6.2, .un, .un, .un]) (sSet (mof (b2 rfl (mfz (cN (x1s (i := 0) rfl rfl (x1 rfl x0)) rfl rfl (Std.e__law_take (s := z5.1) (most := (3 : Int)) (show 0 < ((3 : Int)) by decide) :) rfl)) rfl)) rfl) h (fun z6 h => sqB (ctx := fun (v_room_7 : Int) => [.io (Std.eStm z6.1), .fz (D.str v_kind), .ow ((eL D.int) z5.2), .un, zI z6.2, zI v_room_7, .un, .un]) (sSet (mof rfl) rfl) h (fun v_room_7 h => sqB (ctx := fun (v_rule_8 : Str) => [.io (Std.eStm z6.1), .fz (D.str v_kind), .ow ((eL D.int) z5.2), .un, zI z6.2, zI v_room_7, .fz (D.str v_rule_8), .un]) (sSet (mof rfl) rfl) h (fun v_rule_8 h => sqB (ctx := fun (z14 : (Std.Stm × Int × Str)) => [.io (Std.eStm z14.1), .fz (D.str v_kind), .ow ((eL D.int) z5.2), .un, zI z6.2, zI z14.2.1, .fz (D.str z14.2.2), .un]) (ifJ (ctx := fun (z13 : (Std.Stm × Int × Str)) => [.io (Std.eStm z13.1), .fz (D.str v_kind), .ow ((eL D.int) z5.2), .un, zI z6.2, zI z13.2.1, .fz (D.str z13.2.2), .un]) (v := bd ((Std.t__law_take z6.1 ((9 : Int))).2, ((1 : Int) + (Std.t__law_take z6.1 ((9 : Int))).1)) (fun (z11 : (Std.Stm × Int)) => bd ((Std.t__law_take z11.1 ((3 : Int))).2, (ix (([("stay" : Str), ("lose" : Str), ("skip" : Str)] : List Str)) ((Std.t__law_take z11.1 ((3 : Int))).1))) (fun (z12 : (Std.Stm × Str)) => (z12.1, z11.2, z12.2)))) (w := (z6.1, v_room_7, v_rule_8)) (tst (b2 (vf 1 rfl) rfl dEq_s)) (fun hc => (bdh (h.1 hc) (fun h => jnE (ctx := fun (z13 : (Std.Stm × Int × Str)) => [.io (Std.eStm z13.1), .fz (D.str v_kind), .ow ((eL D.int) z5.2), .un, zI z6.2, zI z13.2.1, .fz (D.str z13.2.2), .un]) (s := bd ((Std.t__law_take z6.1 ((9 : Int))).2, ((1 : Int) + (Std.t__law_take z6.1 ((9 : Int))).1)) (fun (z11 : (Std.Stm × Int)) => bd ((Std.t__law_take z11.1 ((3 : Int))).2, (ix (([("stay" : Str), ("lose" : Str), ("skip" : Str)] : List Str)) ((Std.t__law_take z11.1 ((3 : Int))).1))) (fun (z12 : (Std.Stm × Str)) => (z12.1, z11.2, z12.2)))) (sqB (ctx := fun (z11 : (Std.Stm × Int)) => [.io (Std.eStm z11.1), .fz (D.str v_kind), .ow ((eL D.int) z5.2), .un, zI z6.2, zI z11.2, .fz (D.str v_rule_8), .un]) (sSet (mof (b2 rfl (mfz (cN (x1s (i := 0) rfl rfl (x1 rfl x0)) rfl rfl (Std.e__law_take (s := z6.1) (most := (9 : Int)) (show 0 < ((9 : Int)) by decide) :) rfl)) rfl)) rfl) h (fun z11 h => sqB (ctx := fun (z12 : (Std.Stm × Str)) => [.io (Std.eStm z12.1), .fz (D.str v_kind), .ow ((eL D.int) z5.2), .un, zI z6.2, zI z11.2, .fz (D.str z12.2), .un]) (S := fun _ => True) (sSet (mof (b2 (mfz (mlst (a1 rfl (a1 rfl (a1 rfl a0))))) (mfz (cN (x1s (i := 0) rfl rfl (x1 rfl x0)) rfl rfl (Std.e__law_take (s := z11.1) (most := (3 : Int)) (show 0 < ((3 : Int)) by decide) :) rfl)) (o_ixL (F := D.str) (xs := ([("stay" : Str), ("lose" : Str), ("skip" : Str)] : List Str)) h))) rfl) trivial (fun z12 _ => rfl)))))) (fun _ => jnE (ctx := fun (z13 : (Std.Stm × Int × Str)) => [.io (Std.eStm z13.1), .fz (D.str v_kind), .ow ((eL D.int) z5.2), .un, zI z6.2, zI z13.2.1, .fz (D.str z13.2.2), .un]) (s := (z6.1, v_room_7, v_rule_8)) rfl)) h.2 (fun z14 h => sq (sFrz (i := 2) rfl (show _ = [.io (Std.eStm z14.1), .fz (D.str v_kind), zJ z5.2, .un, zI z6.2, zI z14.2.1, .fz (D.str z14.2.2), .un] from rfl)) (sRet (mof (mtup (a1 (mfz (lcM (F := D.int) (G := (eT2 D.int D.int)) (φ := fun (xv15 : Int) => (Raw.qp (Rat.divInt xv15 z6.2))) (ρ1 := [.io (Std.eStm z14.1), .fz (D.str v_kind), zJ z5.2, .un, zI z6.2, zI z14.2.1, .fz (D.str z14.2.2), .un]) (i_L (F := D.int) (vf 2 rfl)) rfl (fun xv15 hx16 => ⟨_, rfl, rfl, _, mfz (cN (x1 (vf 7 rfl) (x1 (vf 4 rfl) x0)) rfl rfl (Raw.e__law_fraction (a := xv15) (b := z6.2) (h.1 xv15 hx16) :) rfl), rfl⟩) h.2 rfl)) (a1 (mtup (a1 rfl (a1 rfl a0))) (a1 (vf 5 rfl) (a1 (vf 6 rfl) a0)))))) (ji_mk rfl rfl))))))))
noncomputable def fb__law_good : M Fl :=
  mSeq (mSet 2 (mOf (mBin dAdd (M.pure (.int 1)) (mFz (mCallN 2 (some 0) Std.fn__law_take (xS 0 (xV (M.pure (.int 4)) xNil)))))))
    (mSeq (mSet 3 (mOf (mBin dAdd (mFz (mListRg1 (mVar 2))) (mFz (mLc [13] (mRange1 (mCons (mFz (mCallN 2 (some 0) Std.fn__law_take (xS 0 (xV (M.pure (.int 4)) xNil)))) mNil)) (gN 13) (M.pure true) (mFz (mCallN 2 (some 0) Std.fn__law_take (xS 0 (xV (mVar 2) xNil)))))))))
    (mSeq (mSet 4 (mOf (mCall dLen (mCons (mVar 3) mNil))))
    (mSeq (mSet 5 (mOf (mCall dInt (mCons (mBin dNe (mVar 1) (M.pure (.str "shut"))) mNil))))
    (mSeq (mSet 6 (mLst mNil))
    (mSeq (mFor (mIter (mVar 3)) (gN 7) (mSeq (mSet 10 (mLst (mCons (mFz (mCallN 2 (some 0) Std.fn__law_take (xS 0 (xV (mVar 4) xNil)))) mNil)))
    (mSeq (mIf (mTest (mBin dLt (mBin dAdd (mPeek 10 (M.pure (.int 0))) (M.pure (.int 1))) (mVar 4))) (mSeq (mApp1 10 (mBin dAdd (mPeek 10 (M.pure (.int 0))) (M.pure (.int 1))))
    mNx) mNx)
    (mSeq (mSet 11 (mOf (mBin dAdd (mLenL 10) (mVar 5))))
    (mSeq (mFrz 10)
    (mSeq (mApp1 6 (mTup (mCons (mVar 7) (mCons (mTup (mCons (mBin dAdd (M.pure (.int 1)) (mFz (mCallN 2 (some 0) Std.fn__law_take (xS 0 (xV (M.pure (.int 4)) xNil))))) (mCons (M.pure (.int 5)) mNil))) (mCons (mFz (mLc [14] (mIter (mVar 10)) (gN 14) (M.pure true) (mTup (mCons (mVar 14) (mCons (mTup (mCons (M.pure (.int 1)) (mCons (mVar 11) mNil))) mNil))))) mNil)))))
    (mSeq (mKill [7, 10, 11]) mNx)))))))
    (mSeq (mSet 8 (mLc [13] (mRange1 (mCons (mVar 2) mNil)) (gN 13) (M.pure true) (mFz (mCallN 2 (some 0) fn__law_line (xS 0 (xV (mVar 1) xNil))))))
    (mSeq (mFrz 6)
    (mSeq (mFrz 8)
    (mSeq (mIf (mTest (mBin dEq (mVar 1) (M.pure (.str "shut")))) (mSeq (mSet 12 (mRepO (mFz (mLst (mCons (M.pure (.int 0)) mNil))) (mVar 4)))
    (mSeq (mPutAt 12 (mBin dAdd (M.pure (.int 1)) (mFz (mCallN 2 (some 0) Std.fn__law_take (xS 0 (xV (M.pure (.int 8)) xNil))))) (mFz (mCallN 2 (some 0) Std.fn__law_take (xS 0 (xV (mVar 4) xNil)))))
    (mSeq (mFrz 12)
    (mRet (mOf (mTup (mCons (mVar 8) (mCons (mVar 6) (mCons (mTup (mCons (M.pure (.str "shut")) (mCons (mVar 12) mNil))) mNil))))))))) mNx)
    (mSeq (mSet 9 (mRepO (mFz (mLst (mCons (mTup (mCons (M.pure (.int 0)) (mCons (M.pure (.int 1)) mNil))) mNil))) (mVar 4)))
    (mSeq (mPutAt 9 (mTup (mCons (mBin dAdd (M.pure (.int 1)) (mBin dMul (M.pure (.int 2)) (mFz (mCallN 2 (some 0) Std.fn__law_take (xS 0 (xV (M.pure (.int 2)) xNil)))))) (mCons (M.pure (.int 4)) mNil))) (mFz (mCallN 2 (some 0) Std.fn__law_take (xS 0 (xV (mVar 4) xNil)))))
    (mSeq (mFrz 9)
    (mRet (mOf (mTup (mCons (mVar 8) (mCons (mVar 6) (mCons (mTup (mCons (M.pure (.str "open")) (mCons (mVar 9) mNil))) mNil))))))))))))))))))
noncomputable def fn__law_good : List D → Rf := runF (some 0) 15 fb__law_good
noncomputable def t__law_good (v_stream_here : Std.Stm) (v_kind : Str) : (((List ((List (Int × Int)) × (Int × Int) × Int × Str)) × (List (Int × (Int × Int) × (List (Int × (Int × Int))))) × (Str × (List Raw.PE))) × Std.Stm) :=
  bd ((Std.t__law_take v_stream_here ((4 : Int))).2, ((1 : Int) + (Std.t__law_take v_stream_here ((4 : Int))).1)) (fun (z1 : (Std.Stm × Int)) => bd ((lcS (fun (xv2 : Int) (s3 : Std.Stm) => (true, s3)) (fun (xv2 : Int) (s3 : Std.Stm) => ((Std.t__law_take s3 z1.2).1, (Std.t__law_take s3 z1.2).2)) (rangeI 0 ((Std.t__law_take z1.1 ((4 : Int))).1)) ((Std.t__law_take z1.1 ((4 : Int))).2)).2, ((rangeI 0 z1.2) ++ (lcS (fun (xv2 : Int) (s3 : Std.Stm) => (true, s3)) (fun (xv2 : Int) (s3 : Std.Stm) => ((Std.t__law_take s3 z1.2).1, (Std.t__law_take s3 z1.2).2)) (rangeI 0 ((Std.t__law_take z1.1 ((4 : Int))).1)) ((Std.t__law_take z1.1 ((4 : Int))).2)).1)) (fun (z6 : (Std.Stm × (List Int))) => bd (z6.2.length : Int) (fun (v_many_7 : Int) => bd (Dt.b2i (!decide (v_kind = ("shut" : Str)))) (fun (v_left_8 : Int) => bd ([] : List (Int × (Int × Int) × (List (Int × (Int × Int))))) (fun (v_stands_9 : (List (Int × (Int × Int) × (List (Int × (Int × Int)))))) => bd (z6.2.foldl (fun (z10 : (Std.Stm × (List (Int × (Int × Int) × (List (Int × (Int × Int))))))) (xv11 : Int) => bd ((Std.t__law_take z10.1 v_many_7).2, ([(Std.t__law_take z10.1 v_many_7).1] : List Int)) (fun (z12 : (Std.Stm × (List Int))) => bd (cond (decide (((ix z12.2 ((0 : Int))) + (1 : Int)) < v_many_7)) (bd (z12.2 ++ [((ix z12.2 ((0 : Int))) + (1 : Int))]) (fun (v_some_14 : (List Int)) => v_some_14)) z12.2) (fun (z16 : ((List Int))) => bd ((z16.length : Int) + v_left_8) (fun (v_below_17 : Int) => bd ((Std.t__law_take z12.1 ((4 : Int))).2, (z10.2 ++ [(xv11, (((1 : Int) + (Std.t__law_take z12.1 ((4 : Int))).1), (5 : Int)), (z16.map (fun (xv18 : Int) => (xv18, ((1 : Int), v_below_17)))))])) (fun (z21 : (Std.Stm × (List (Int × (Int × Int) × (List (Int × (Int × Int))))))) => (z21.1, z21.2)))))) (z6.1, v_stands_9)) (fun (z22 : (Std.Stm × (List (Int × (Int × Int) × (List (Int × (Int × Int))))))) => bd ((lcS (fun (xv23 : Int) (s24 : Std.Stm) => (true, s24)) (fun (xv23 : Int) (s24 : Std.Stm) => ((t__law_line s24 v_kind).1, (t__law_line s24 v_kind).2)) (rangeI 0 z1.2) z22.1).2, (lcS (fun (xv23 : Int) (s24 : Std.Stm) => (true, s24)) (fun (xv23 : Int) (s24 : Std.Stm) => ((t__law_line s24 v_kind).1, (t__law_line s24 v_kind).2)) (rangeI 0 z1.2) z22.1).1) (fun (z27 : (Std.Stm × (List ((List (Int × Int)) × (Int × Int) × Int × Str)))) => cond (decide (v_kind = ("shut" : Str))) (bd (repI (([(0 : Int)] : List Int)) v_many_7) (fun (v_counts_28 : (List Int)) => bd ((Std.t__law_take ((Std.t__law_take z27.1 ((8 : Int))).2) v_many_7).2, (setI v_counts_28 ((Std.t__law_take ((Std.t__law_take z27.1 ((8 : Int))).2) v_many_7).1) (((1 : Int) + (Std.t__law_take z27.1 ((8 : Int))).1)))) (fun (z29 : (Std.Stm × (List Int))) => ((z27.2, z22.2, (("shut" : Str), (z29.2.map Sum.inr : List Raw.PE))), z29.1)))) (bd (repI (([((0 : Int), (1 : Int))] : List (Int × Int))) v_many_7) (fun (v_rates_30 : (List (Int × Int))) => bd ((Std.t__law_take ((Std.t__law_take z27.1 ((2 : Int))).2) v_many_7).2, (setI v_rates_30 ((Std.t__law_take ((Std.t__law_take z27.1 ((2 : Int))).2) v_many_7).1) ((((1 : Int) + ((2 : Int) * (Std.t__law_take z27.1 ((2 : Int))).1)), (4 : Int))))) (fun (z31 : (Std.Stm × (List (Int × Int)))) => ((z27.2, z22.2, (("open" : Str), (z31.2.map Sum.inl : List Raw.PE))), z31.1)))))))))))
def s__law_good (v_stream_here : Std.Stm) (v_kind : Str) : Prop :=
  bd ((Std.t__law_take v_stream_here ((4 : Int))).2, ((1 : Int) + (Std.t__law_take v_stream_here ((4 : Int))).1)) (fun (z1 : (Std.Stm × Int)) => ((-10000 < z1.2 ∧ z1.2 < 10000) ∧ (-100000000 < ((Std.t__law_take z1.1 ((4 : Int))).1) ∧ ((Std.t__law_take z1.1 ((4 : Int))).1) < 100000000) ∧ (slcS (fun (xv2 : Int) (s3 : Std.Stm) => (true, s3)) (fun (xv2 : Int) (s3 : Std.Stm) => ((Std.t__law_take s3 z1.2).1, (Std.t__law_take s3 z1.2).2)) (fun (xv2 : Int) (s3 : Std.Stm) => ((0 < z1.2))) (rangeI 0 ((Std.t__law_take z1.1 ((4 : Int))).1)) ((Std.t__law_take z1.1 ((4 : Int))).2)) ∧ (((rangeI 0 ((Std.t__law_take z1.1 ((4 : Int))).1))).length ≤ 10000) ∧ (((rangeI 0 z1.2)).length + ((lcS (fun (xv2 : Int) (s3 : Std.Stm) => (true, s3)) (fun (xv2 : Int) (s3 : Std.Stm) => ((Std.t__law_take s3 z1.2).1, (Std.t__law_take s3 z1.2).2)) (rangeI 0 ((Std.t__law_take z1.1 ((4 : Int))).1)) ((Std.t__law_take z1.1 ((4 : Int))).2)).1).length ≤ 10000) ∧ (bd ((lcS (fun (xv2 : Int) (s3 : Std.Stm) => (true, s3)) (fun (xv2 : Int) (s3 : Std.Stm) => ((Std.t__law_take s3 z1.2).1, (Std.t__law_take s3 z1.2).2)) (rangeI 0 ((Std.t__law_take z1.1 ((4 : Int))).1)) ((Std.t__law_take z1.1 ((4 : Int))).2)).2, ((rangeI 0 z1.2) ++ (lcS (fun (xv2 : Int) (s3 : Std.Stm) => (true, s3)) (fun (xv2 : Int) (s3 : Std.Stm) => ((Std.t__law_take s3 z1.2).1, (Std.t__law_take s3 z1.2).2)) (rangeI 0 ((Std.t__law_take z1.1 ((4 : Int))).1)) ((Std.t__law_take z1.1 ((4 : Int))).2)).1)) (fun (z6 : (Std.Stm × (List Int))) => bd (z6.2.length : Int) (fun (v_many_7 : Int) => bd (Dt.b2i (!decide (v_kind = ("shut" : Str)))) (fun (v_left_8 : Int) => bd ([] : List (Int × (Int × Int) × (List (Int × (Int × Int))))) (fun (v_stands_9 : (List (Int × (Int × Int) × (List (Int × (Int × Int)))))) => ((sfl (fun (z10 : (Std.Stm × (List (Int × (Int × Int) × (List (Int × (Int × Int))))))) (xv11 : Int) => bd ((Std.t__law_take z10.1 v_many_7).2, ([(Std.t__law_take z10.1 v_many_7).1] : List Int)) (fun (z12 : (Std.Stm × (List Int))) => bd (cond (decide (((ix z12.2 ((0 : Int))) + (1 : Int)) < v_many_7)) (bd (z12.2 ++ [((ix z12.2 ((0 : Int))) + (1 : Int))]) (fun (v_some_14 : (List Int)) => v_some_14)) z12.2) (fun (z16 : ((List Int))) => bd ((z16.length : Int) + v_left_8) (fun (v_below_17 : Int) => bd ((Std.t__law_take z12.1 ((4 : Int))).2, (z10.2 ++ [(xv11, (((1 : Int) + (Std.t__law_take z12.1 ((4 : Int))).1), (5 : Int)), (z16.map (fun (xv18 : Int) => (xv18, ((1 : Int), v_below_17)))))])) (fun (z21 : (Std.Stm × (List (Int × (Int × Int) × (List (Int × (Int × Int))))))) => (z21.1, z21.2)))))) (fun (z10 : (Std.Stm × (List (Int × (Int × Int) × (List (Int × (Int × Int))))))) (xv11 : Int) => ((0 < v_many_7) ∧ (bd ((Std.t__law_take z10.1 v_many_7).2, ([(Std.t__law_take z10.1 v_many_7).1] : List Int)) (fun (z12 : (Std.Stm × (List Int))) => ((InB z12.2.length ((0 : Int))) ∧ ((decide (((ix z12.2 ((0 : Int))) + (1 : Int)) < v_many_7)) = true → ((InB z12.2.length ((0 : Int))) ∧ (z12.2.length < 10000))) ∧ (bd (cond (decide (((ix z12.2 ((0 : Int))) + (1 : Int)) < v_many_7)) (bd (z12.2 ++ [((ix z12.2 ((0 : Int))) + (1 : Int))]) (fun (v_some_14 : (List Int)) => v_some_14)) z12.2) (fun (z16 : ((List Int))) => bd ((z16.length : Int) + v_left_8) (fun (v_below_17 : Int) => ((z16.length ≤ 10000) ∧ (z10.2.length < 10000)))))))))) z6.2 (z6.1, v_stands_9)) ∧ (bd (z6.2.foldl (fun (z10 : (Std.Stm × (List (Int × (Int × Int) × (List (Int × (Int × Int))))))) (xv11 : Int) => bd ((Std.t__law_take z10.1 v_many_7).2, ([(Std.t__law_take z10.1 v_many_7).1] : List Int)) (fun (z12 : (Std.Stm × (List Int))) => bd (cond (decide (((ix z12.2 ((0 : Int))) + (1 : Int)) < v_many_7)) (bd (z12.2 ++ [((ix z12.2 ((0 : Int))) + (1 : Int))]) (fun (v_some_14 : (List Int)) => v_some_14)) z12.2) (fun (z16 : ((List Int))) => bd ((z16.length : Int) + v_left_8) (fun (v_below_17 : Int) => bd ((Std.t__law_take z12.1 ((4 : Int))).2, (z10.2 ++ [(xv11, (((1 : Int) + (Std.t__law_take z12.1 ((4 : Int))).1), (5 : Int)), (z16.map (fun (xv18 : Int) => (xv18, ((1 : Int), v_below_17)))))])) (fun (z21 : (Std.Stm × (List (Int × (Int × Int) × (List (Int × (Int × Int))))))) => (z21.1, z21.2)))))) (z6.1, v_stands_9)) (fun (z22 : (Std.Stm × (List (Int × (Int × Int) × (List (Int × (Int × Int))))))) => ((-100000000 < z1.2 ∧ z1.2 < 100000000) ∧ (slcS (fun (xv23 : Int) (s24 : Std.Stm) => (true, s24)) (fun (xv23 : Int) (s24 : Std.Stm) => ((t__law_line s24 v_kind).1, (t__law_line s24 v_kind).2)) (fun (xv23 : Int) (s24 : Std.Stm) => ((s__law_line s24 v_kind))) (rangeI 0 z1.2) z22.1) ∧ (((rangeI 0 z1.2)).length ≤ 10000) ∧ (bd ((lcS (fun (xv23 : Int) (s24 : Std.Stm) => (true, s24)) (fun (xv23 : Int) (s24 : Std.Stm) => ((t__law_line s24 v_kind).1, (t__law_line s24 v_kind).2)) (rangeI 0 z1.2) z22.1).2, (lcS (fun (xv23 : Int) (s24 : Std.Stm) => (true, s24)) (fun (xv23 : Int) (s24 : Std.Stm) => ((t__law_line s24 v_kind).1, (t__law_line s24 v_kind).2)) (rangeI 0 z1.2) z22.1).1) (fun (z27 : (Std.Stm × (List ((List (Int × Int)) × (Int × Int) × Int × Str)))) => (((decide (v_kind = ("shut" : Str))) = true → ((v_many_7 < 10000 ∧ -10000 < v_many_7 ∧ (([(0 : Int)] : List Int)).length ≤ 1000) ∧ (bd (repI (([(0 : Int)] : List Int)) v_many_7) (fun (v_counts_28 : (List Int)) => ((0 < v_many_7) ∧ (InB v_counts_28.length ((Std.t__law_take ((Std.t__law_take z27.1 ((8 : Int))).2) v_many_7).1))))))) ∧ ((decide (v_kind = ("shut" : Str))) = false → ((v_many_7 < 10000 ∧ -10000 < v_many_7 ∧ (([((0 : Int), (1 : Int))] : List (Int × Int))).length ≤ 1000) ∧ (bd (repI (([((0 : Int), (1 : Int))] : List (Int × Int))) v_many_7) (fun (v_rates_30 : (List (Int × Int))) => ((mulOk ((2 : Int)) ((Std.t__law_take z27.1 ((2 : Int))).1) = true) ∧ (0 < v_many_7) ∧ (InB v_rates_30.length ((Std.t__law_take ((Std.t__law_take z27.1 ((2 : Int))).2) v_many_7).1)))))))))))))))))))))
theorem e__law_good {v_stream_here : Std.Stm} {v_kind : Str} (h : s__law_good v_stream_here v_kind) : fn__law_good [Std.eStm v_stream_here, D.str v_kind] = .ok ((eT3 (eL (eT4 (eL (eT2 D.int D.int)) (eT2 D.int D.int) D.int D.str)) (eL (eT3 D.int (eT2 D.int D.int) (eL (eT2 D.int (eT2 D.int D.int))))) (eT2 D.str (eL Raw.ePE))) (t__law_good v_stream_here v_kind).1) .ff (Std.eStm (t__law_good v_stream_here v_kind).2) := by
  refine runI (F := (eT3 (eL (eT4 (eL (eT2 D.int D.int)) (eT2 D.int D.int) D.int D.str)) (eL (eT3 D.int (eT2 D.int D.int) (eL (eT2 D.int (eT2 D.int D.int))))) (eT2 D.str (eL Raw.ePE)))) (G := Std.eStm) (o := .ff) (fb := fb__law_good) (x := t__law_good v_stream_here v_kind) ?_
  show JI 0 (eT3 (eL (eT4 (eL (eT2 D.int D.int)) (eT2 D.int D.int) D.int D.str)) (eL (eT3 D.int (eT2 D.int D.int) (eL (eT2 D.int (eT2 D.int D.int))))) (eT2 D.str (eL Raw.ePE))) Std.eStm .ff (fb__law_good [.io (Std.eStm v_stream_here), .fz (D.str v_kind), .un, .un, .un, .un, .un, .un, .un, .un, .un, .un, .un, .un, .un]) _
  delta fb__law_good t__law_good
  delta s__law_good at h
  exact sqB (ctx := fun (z1 : (Std.Stm × Int)) => [.io (Std.eStm z1.1), .fz (D.str v_kind), zI z1.2, .un, .un, .un, .un, .un, .un, .un, .un, .un, .un, .un, .un]) (sSet (mof (b2 rfl (mfz (cN (x1s (i := 0) rfl rfl (x1 rfl x0)) rfl rfl (Std.e__law_take (s := v_stream_here) (most := (4 : Int)) (show 0 < ((4 : Int)) by decide) :) rfl)) rfl)) rfl) h (fun z1 h => sqB (ctx := fun (z6 : (Std.Stm × (List Int))) => [.io (Std.eStm z6.1), .fz (D.str v_kind), zI z1.2, zJ z6.2, .un, .un, .un, .un, .un, .un, .un, .un, .un, .un, .un]) (sSet (mof (b2 (mfz (lrg1 (vf 2 rfl) h.1)) (mfz (lcSt (F := D.int) (G := D.int) (p := (fun (xv2 : Int) (s3 : Std.Stm) => (true, s3))) (φ := (fun (xv2 : Int) (s3 : Std.Stm) => ((Std.t__law_take s3 z1.2).1, (Std.t__law_take s3 z1.2).2))) (S := (fun (xv2 : Int) (s3 : Std.Stm) => ((0 < z1.2)))) (ctx := fun s_ => [.io (Std.eStm s_), .fz (D.str v_kind), zI z1.2, .un, .un, .un, .un, .un, .un, .un, .un, .un, .un, .un, .un]) (ctx9 := fun s_ => [.io (Std.eStm s_), .fz (D.str v_kind), zI z1.2, .un, .un, .un, .un, .un, .un, .un, .un, .un, .un, .un, .un]) (s := (Std.t__law_take z1.1 ((4 : Int))).2) (i_r1 (a1 (mfz (cN (x1s (i := 0) rfl rfl (x1 rfl x0)) rfl rfl (Std.e__law_take (s := z1.1) (most := (4 : Int)) (show 0 < ((4 : Int)) by decide) :) rfl)) a0) h.2.1) rfl h.2.2.1 (fun xv2 s3 hs4 => ⟨fun s_ => [.io (Std.eStm s_), .fz (D.str v_kind), zI z1.2, .un, .un, .un, .un, .un, .un, .un, .un, .un, .un, zI xv2, .un], rfl, rfl, fun _ => rfl, fun hc5 => mfz (cN (x1s (i := 0) rfl rfl (x1 (vf 2 rfl) x0)) rfl rfl (Std.e__law_take (s := s3) (most := z1.2) hs4 :) rfl)⟩) h.2.2.2.1 (fun _ => rfl))) (o_addL (F := D.int) (xs := (rangeI 0 z1.2)) (ys := (lcS (fun (xv2 : Int) (s3 : Std.Stm) => (true, s3)) (fun (xv2 : Int) (s3 : Std.Stm) => ((Std.t__law_take s3 z1.2).1, (Std.t__law_take s3 z1.2).2)) (rangeI 0 ((Std.t__law_take z1.1 ((4 : Int))).1)) ((Std.t__law_take z1.1 ((4 : Int))).2)).1) h.2.2.2.2.1))) rfl) h.2.2.2.2.2 (fun z6 h => sqB (ctx := fun (v_many_7 : Int) => [.io (Std.eStm z6.1), .fz (D.str v_kind), zI z1.2, zJ z6.2, zI v_many_7, .un, .un, .un, .un, .un, .un, .un, .un, .un, .un]) (sSet (mof (c1 (a1 (vf 3 rfl) a0) (o_lenL (F := D.int)))) rfl) h (fun v_many_7 h => sqB (ctx := fun (v_left_8 : Int) => [.io (Std.eStm z6.1), .fz (D.str v_kind), zI z1.2, zJ z6.2, zI v_many_7, zI v_left_8, .un, .un, .un, .un, .un, .un, .un, .un, .un]) (sSet (mof (c1 (a1 (b2 (vf 1 rfl) rfl dNe_s) a0) o_int)) rfl) h (fun v_left_8 h => sqB (ctx := fun (v_stands_9 : (List (Int × (Int × Int) × (List (Int × (Int × Int)))))) => [.io (Std.eStm z6.1), .fz (D.str v_kind), zI z1.2, zJ z6.2, zI v_many_7, zI v_left_8, .ow ((eL (eT3 D.int (eT2 D.int D.int) (eL (eT2 D.int (eT2 D.int D.int))))) v_stands_9), .un, .un, .un, .un, .un, .un, .un, .un]) (sSetO (mlst a0) rfl) h (fun v_stands_9 h => sqB (ctx := fun (z22 : (Std.Stm × (List (Int × (Int × Int) × (List (Int × (Int × Int))))))) => [.io (Std.eStm z22.1), .fz (D.str v_kind), zI z1.2, zJ z6.2, zI v_many_7, zI v_left_8, .ow ((eL (eT3 D.int (eT2 D.int D.int) (eL (eT2 D.int (eT2 D.int D.int))))) z22.2), .un, .un, .un, .un, .un, .un, .un, .un]) (forN (F := D.int) (ctx := fun (z10 : (Std.Stm × (List (Int × (Int × Int) × (List (Int × (Int × Int))))))) => [.io (Std.eStm z10.1), .fz (D.str v_kind), zI z1.2, zJ z6.2, zI v_many_7, zI v_left_8, .ow ((eL (eT3 D.int (eT2 D.int D.int) (eL (eT2 D.int (eT2 D.int D.int))))) z10.2), .un, .un, .un, .un, .un, .un, .un, .un]) (i_L (F := D.int) (vf 3 rfl)) h.1 (fun z10 xv11 h => ⟨_, rfl, sqB (ctx := fun (z12 : (Std.Stm × (List Int))) => [.io (Std.eStm z12.1), .fz (D.str v_kind), zI z1.2, zJ z6.2, zI v_many_7, zI v_left_8, .ow ((eL (eT3 D.int (eT2 D.int D.int) (eL (eT2 D.int (eT2 D.int D.int))))) z10.2), zI xv11, .un, .un, .ow ((eL D.int) z12.2), .un, .un, .un, .un]) (sSetO (mlst (a1 (mfz (cN (x1s (i := 0) rfl rfl (x1 (vf 4 rfl) x0)) rfl rfl (Std.e__law_take (s := z10.1) (most := v_many_7) h.1 :) rfl)) a0)) rfl) h.2 (fun z12 h => sqB (ctx := fun (z16 : ((List Int))) => [.io (Std.eStm z12.1), .fz (D.str v_kind), zI z1.2, zJ z6.2, zI v_many_7, zI v_left_8, .ow ((eL (eT3 D.int (eT2 D.int D.int) (eL (eT2 D.int (eT2 D.int D.int))))) z10.2), zI xv11, .un, .un, .ow ((eL D.int) z16), .un, .un, .un, .un]) (ifJ (ctx := fun (z15 : ((List Int))) => [.io (Std.eStm z12.1), .fz (D.str v_kind), zI z1.2, zJ z6.2, zI v_many_7, zI v_left_8, .ow ((eL (eT3 D.int (eT2 D.int D.int) (eL (eT2 D.int (eT2 D.int D.int))))) z10.2), zI xv11, .un, .un, .ow ((eL D.int) z15), .un, .un, .un, .un]) (v := bd (z12.2 ++ [((ix z12.2 ((0 : Int))) + (1 : Int))]) (fun (v_some_14 : (List Int)) => v_some_14)) (w := z12.2) (tst (b2 (b2 (pk (i := 10) (F := D.int) (xs := z12.2) rfl rfl rfl h.1) rfl rfl) (vf 4 rfl) rfl)) (fun hc => (bdh (h.2.1 hc) (fun h => jnE (ctx := fun (z15 : ((List Int))) => [.io (Std.eStm z12.1), .fz (D.str v_kind), zI z1.2, zJ z6.2, zI v_many_7, zI v_left_8, .ow ((eL (eT3 D.int (eT2 D.int D.int) (eL (eT2 D.int (eT2 D.int D.int))))) z10.2), zI xv11, .un, .un, .ow ((eL D.int) z15), .un, .un, .un, .un]) (s := bd (z12.2 ++ [((ix z12.2 ((0 : Int))) + (1 : Int))]) (fun (v_some_14 : (List Int)) => v_some_14)) (sqB (ctx := fun (v_some_14 : (List Int)) => [.io (Std.eStm z12.1), .fz (D.str v_kind), zI z1.2, zJ z6.2, zI v_many_7, zI v_left_8, .ow ((eL (eT3 D.int (eT2 D.int D.int) (eL (eT2 D.int (eT2 D.int D.int))))) z10.2), zI xv11, .un, .un, .ow ((eL D.int) v_some_14), .un, .un, .un, .un]) (S := fun _ => True) (sApp (i := 10) (F := D.int) (xs := z12.2) (v := ((ix z12.2 ((0 : Int))) + (1 : Int))) (b2 (pk (i := 10) (F := D.int) (xs := z12.2) rfl rfl rfl h.1) rfl rfl) ⟨_, rfl⟩ rfl h.2 rfl) trivial (fun v_some_14 _ => rfl))))) (fun _ => jnE (ctx := fun (z15 : ((List Int))) => [.io (Std.eStm z12.1), .fz (D.str v_kind), zI z1.2, zJ z6.2, zI v_many_7, zI v_left_8, .ow ((eL (eT3 D.int (eT2 D.int D.int) (eL (eT2 D.int (eT2 D.int D.int))))) z10.2), zI xv11, .un, .un, .ow ((eL D.int) z15), .un, .un, .un, .un]) (s := z12.2) rfl)) h.2.2 (fun z16 h => sqB (ctx := fun (v_below_17 : Int) => [.io (Std.eStm z12.1), .fz (D.str v_kind), zI z1.2, zJ z6.2, zI v_many_7, zI v_left_8, .ow ((eL (eT3 D.int (eT2 D.int D.int) (eL (eT2 D.int (eT2 D.int D.int))))) z10.2), zI xv11, .un, .un, .ow ((eL D.int) z16), zI v_below_17, .un, .un, .un]) (sSet (mof (b2 (lnL (i := 10) (F := D.int) rfl) (vf 5 rfl) rfl)) rfl) h (fun v_below_17 h => sq (sFrz (i := 10) rfl (show _ = [.io (Std.eStm z12.1), .fz (D.str v_kind), zI z1.2, zJ z6.2, zI v_many_7, zI v_left_8, .ow ((eL (eT3 D.int (eT2 D.int D.int) (eL (eT2 D.int (eT2 D.int D.int))))) z10.2), zI xv11, .un, .un, zJ z16, zI v_below_17, .un, .un, .un] from rfl)) (sqB (ctx := fun (z21 : (Std.Stm × (List (Int × (Int × Int) × (List (Int × (Int × Int))))))) => [.io (Std.eStm z21.1), .fz (D.str v_kind), zI z1.2, zJ z6.2, zI v_many_7, zI v_left_8, .ow ((eL (eT3 D.int (eT2 D.int D.int) (eL (eT2 D.int (eT2 D.int D.int))))) z21.2), zI xv11, .un, .un, zJ z16, zI v_below_17, .un, .un, .un]) (S := fun _ => True) (sApp (i := 6) (F := (eT3 D.int (eT2 D.int D.int) (eL (eT2 D.int (eT2 D.int D.int))))) (xs := z10.2) (v := (xv11, (((1 : Int) + (Std.t__law_take z12.1 ((4 : Int))).1), (5 : Int)), (z16.map (fun (xv18 : Int) => (xv18, ((1 : Int), v_below_17)))))) (mtup (a1 (vf 7 rfl) (a1 (mtup (a1 (b2 rfl (mfz (cN (x1s (i := 0) rfl rfl (x1 rfl x0)) rfl rfl (Std.e__law_take (s := z12.1) (most := (4 : Int)) (show 0 < ((4 : Int)) by decide) :) rfl)) rfl) (a1 rfl a0))) (a1 (mfz (lcM (F := D.int) (G := (eT2 D.int (eT2 D.int D.int))) (φ := fun (xv18 : Int) => (xv18, ((1 : Int), v_below_17))) (ρ1 := [.io (Std.eStm ((Std.t__law_take z12.1 ((4 : Int))).2)), .fz (D.str v_kind), zI z1.2, zJ z6.2, zI v_many_7, zI v_left_8, .ow ((eL (eT3 D.int (eT2 D.int D.int) (eL (eT2 D.int (eT2 D.int D.int))))) z10.2), zI xv11, .un, .un, zJ z16, zI v_below_17, .un, .un, .un]) (i_L (F := D.int) (vf 10 rfl)) rfl (fun xv18 hx19 => ⟨_, rfl, rfl, _, mtup (a1 (vf 14 rfl) (a1 (mtup (a1 rfl (a1 (vf 11 rfl) a0))) a0)), rfl⟩) h.1 rfl)) a0)))) ⟨_, rfl⟩ rfl h.2 rfl) trivial (fun z21 _ => sq (sKill (show _ = [.io (Std.eStm z21.1), .fz (D.str v_kind), zI z1.2, zJ z6.2, zI v_many_7, zI v_left_8, .ow ((eL (eT3 D.int (eT2 D.int D.int) (eL (eT2 D.int (eT2 D.int D.int))))) z21.2), .un, .un, .un, .un, .un, .un, .un, .un] from rfl)) rfl)))))⟩)) h.2 (fun z22 h => sqB (ctx := fun (z27 : (Std.Stm × (List ((List (Int × Int)) × (Int × Int) × Int × Str)))) => [.io (Std.eStm z27.1), .fz (D.str v_kind), zI z1.2, zJ z6.2, zI v_many_7, zI v_left_8, .ow ((eL (eT3 D.int (eT2 D.int D.int) (eL (eT2 D.int (eT2 D.int D.int))))) z22.2), .un, .ow ((eL (eT4 (eL (eT2 D.int D.int)) (eT2 D.int D.int) D.int D.str)) z27.2), .un, .un, .un, .un, .un, .un]) (sSetO (lcSt (F := D.int) (G := (eT4 (eL (eT2 D.int D.int)) (eT2 D.int D.int) D.int D.str)) (p := (fun (xv23 : Int) (s24 : Std.Stm) => (true, s24))) (φ := (fun (xv23 : Int) (s24 : Std.Stm) => ((t__law_line s24 v_kind).1, (t__law_line s24 v_kind).2))) (S := (fun (xv23 : Int) (s24 : Std.Stm) => ((s__law_line s24 v_kind)))) (ctx := fun s_ => [.io (Std.eStm s_), .fz (D.str v_kind), zI z1.2, zJ z6.2, zI v_many_7, zI v_left_8, .ow ((eL (eT3 D.int (eT2 D.int D.int) (eL (eT2 D.int (eT2 D.int D.int))))) z22.2), .un, .un, .un, .un, .un, .un, .un, .un]) (ctx9 := fun s_ => [.io (Std.eStm s_), .fz (D.str v_kind), zI z1.2, zJ z6.2, zI v_many_7, zI v_left_8, .ow ((eL (eT3 D.int (eT2 D.int D.int) (eL (eT2 D.int (eT2 D.int D.int))))) z22.2), .un, .un, .un, .un, .un, .un, .un, .un]) (s := z22.1) (i_r1 (a1 (vf 2 rfl) a0) h.1) rfl h.2.1 (fun xv23 s24 hs25 => ⟨fun s_ => [.io (Std.eStm s_), .fz (D.str v_kind), zI z1.2, zJ z6.2, zI v_many_7, zI v_left_8, .ow ((eL (eT3 D.int (eT2 D.int D.int) (eL (eT2 D.int (eT2 D.int D.int))))) z22.2), .un, .un, .un, .un, .un, .un, zI xv23, .un], rfl, rfl, fun _ => rfl, fun hc26 => mfz (cN (x1s (i := 0) rfl rfl (x1 (vf 1 rfl) x0)) rfl rfl (e__law_line (v_stream_here := s24) (v_kind := v_kind) hs25 :) rfl)⟩) h.2.2.1 (fun _ => rfl)) rfl) h.2.2.2 (fun z27 h => sq (sFrz (i := 6) rfl (show _ = [.io (Std.eStm z27.1), .fz (D.str v_kind), zI z1.2, zJ z6.2, zI v_many_7, zI v_left_8, .fz ((eL (eT3 D.int (eT2 D.int D.int) (eL (eT2 D.int (eT2 D.int D.int))))) z22.2), .un, .ow ((eL (eT4 (eL (eT2 D.int D.int)) (eT2 D.int D.int) D.int D.str)) z27.2), .un, .un, .un, .un, .un, .un] from rfl)) (sq (sFrz (i := 8) rfl (show _ = [.io (Std.eStm z27.1), .fz (D.str v_kind), zI z1.2, zJ z6.2, zI v_many_7, zI v_left_8, .fz ((eL (eT3 D.int (eT2 D.int D.int) (eL (eT2 D.int (eT2 D.int D.int))))) z22.2), .un, .fz ((eL (eT4 (eL (eT2 D.int D.int)) (eT2 D.int D.int) D.int D.str)) z27.2), .un, .un, .un, .un, .un, .un] from rfl)) (sqIf (tst (b2 (vf 1 rfl) rfl dEq_s)) (fun hc => bdh (h.1 hc) (fun h => sAss (sqB (ctx := fun (v_counts_28 : (List Int)) => [.io (Std.eStm z27.1), .fz (D.str v_kind), zI z1.2, zJ z6.2, zI v_many_7, zI v_left_8, .fz ((eL (eT3 D.int (eT2 D.int D.int) (eL (eT2 D.int (eT2 D.int D.int))))) z22.2), .un, .fz ((eL (eT4 (eL (eT2 D.int D.int)) (eT2 D.int D.int) D.int D.str)) z27.2), .un, .un, .un, .ow ((eL D.int) v_counts_28), .un, .un]) (sSetO (repO (F := D.int) (xs := ([(0 : Int)] : List Int)) (mfz (mlst (a1 rfl a0))) (vf 4 rfl) h.1) rfl) h.2 (fun v_counts_28 h => sAss (sqB (ctx := fun (z29 : (Std.Stm × (List Int))) => [.io (Std.eStm z29.1), .fz (D.str v_kind), zI z1.2, zJ z6.2, zI v_many_7, zI v_left_8, .fz ((eL (eT3 D.int (eT2 D.int D.int) (eL (eT2 D.int (eT2 D.int D.int))))) z22.2), .un, .fz ((eL (eT4 (eL (eT2 D.int D.int)) (eT2 D.int D.int) D.int D.str)) z27.2), .un, .un, .un, .ow ((eL D.int) z29.2), .un, .un]) (S := fun _ => True) (sPutO (i := 12) (F := D.int) (xs := v_counts_28) (v := ((1 : Int) + (Std.t__law_take z27.1 ((8 : Int))).1)) (b2 rfl (mfz (cN (x1s (i := 0) rfl rfl (x1 rfl x0)) rfl rfl (Std.e__law_take (s := z27.1) (most := (8 : Int)) (show 0 < ((8 : Int)) by decide) :) rfl)) rfl) (mfz (cN (x1s (i := 0) rfl rfl (x1 (vf 4 rfl) x0)) rfl rfl (Std.e__law_take (s := (Std.t__law_take z27.1 ((8 : Int))).2) (most := v_many_7) h.1 :) rfl)) rfl rfl h.2 rfl) trivial (fun z29 _ => sAss (sq (sFrz (i := 12) rfl (show _ = [.io (Std.eStm z29.1), .fz (D.str v_kind), zI z1.2, zJ z6.2, zI v_many_7, zI v_left_8, .fz ((eL (eT3 D.int (eT2 D.int D.int) (eL (eT2 D.int (eT2 D.int D.int))))) z22.2), .un, .fz ((eL (eT4 (eL (eT2 D.int D.int)) (eT2 D.int D.int) D.int D.str)) z27.2), .un, .un, .un, zJ z29.2, .un, .un] from rfl)) (sqRet (mof (mtup (a1 (vf 8 rfl) (a1 (vf 6 rfl) (a1 (mtup (a1 rfl (a1 ((Raw.cLI (xs := z29.2) (vf 12 rfl))) a0))) a0))))) (ji_mk rfl rfl))))))))) (fun hc => bdh (h.2 hc) (fun h => sq rfl (sqB (ctx := fun (v_rates_30 : (List (Int × Int))) => [.io (Std.eStm z27.1), .fz (D.str v_kind), zI z1.2, zJ z6.2, zI v_many_7, zI v_left_8, .fz ((eL (eT3 D.int (eT2 D.int D.int) (eL (eT2 D.int (eT2 D.int D.int))))) z22.2), .un, .fz ((eL (eT4 (eL (eT2 D.int D.int)) (eT2 D.int D.int) D.int D.str)) z27.2), .ow ((eL (eT2 D.int D.int)) v_rates_30), .un, .un, .un, .un, .un]) (sSetO (repO (F := (eT2 D.int D.int)) (xs := ([((0 : Int), (1 : Int))] : List (Int × Int))) (mfz (mlst (a1 (mtup (a1 rfl (a1 rfl a0))) a0))) (vf 4 rfl) h.1) rfl) h.2 (fun v_rates_30 h => sqB (ctx := fun (z31 : (Std.Stm × (List (Int × Int)))) => [.io (Std.eStm z31.1), .fz (D.str v_kind), zI z1.2, zJ z6.2, zI v_many_7, zI v_left_8, .fz ((eL (eT3 D.int (eT2 D.int D.int) (eL (eT2 D.int (eT2 D.int D.int))))) z22.2), .un, .fz ((eL (eT4 (eL (eT2 D.int D.int)) (eT2 D.int D.int) D.int D.str)) z27.2), .ow ((eL (eT2 D.int D.int)) z31.2), .un, .un, .un, .un, .un]) (S := fun _ => True) (sPutO (i := 9) (F := (eT2 D.int D.int)) (xs := v_rates_30) (v := (((1 : Int) + ((2 : Int) * (Std.t__law_take z27.1 ((2 : Int))).1)), (4 : Int))) (mtup (a1 (b2 rfl (b2 rfl (mfz (cN (x1s (i := 0) rfl rfl (x1 rfl x0)) rfl rfl (Std.e__law_take (s := z27.1) (most := (2 : Int)) (show 0 < ((2 : Int)) by decide) :) rfl)) (o_mul h.1)) rfl) (a1 rfl a0))) (mfz (cN (x1s (i := 0) rfl rfl (x1 (vf 4 rfl) x0)) rfl rfl (Std.e__law_take (s := (Std.t__law_take z27.1 ((2 : Int))).2) (most := v_many_7) h.2.1 :) rfl)) rfl rfl h.2.2 rfl) trivial (fun z31 _ => sq (sFrz (i := 9) rfl (show _ = [.io (Std.eStm z31.1), .fz (D.str v_kind), zI z1.2, zJ z6.2, zI v_many_7, zI v_left_8, .fz ((eL (eT3 D.int (eT2 D.int D.int) (eL (eT2 D.int (eT2 D.int D.int))))) z22.2), .un, .fz ((eL (eT4 (eL (eT2 D.int D.int)) (eT2 D.int D.int) D.int D.str)) z27.2), .fz ((eL (eT2 D.int D.int)) z31.2), .un, .un, .un, .un, .un] from rfl)) (sRet (mof (mtup (a1 (vf 8 rfl) (a1 (vf 6 rfl) (a1 (mtup (a1 rfl (a1 ((Raw.cLP (xs := z31.2) (vf 9 rfl))) a0))) a0))))) (ji_mk rfl rfl))))))))))))))))
noncomputable def fb__law_of_line : M Fl :=
  mSeq (mAsg (gT 4 (gsC (gN 2) (gsC (gN 3) (gsC (gN 4) (gsC (gN 5) gsN))))) (mVar 0))
    (mSeq (mIf (mTest (mBin dEq (mVar 1) (M.pure (.int 0)))) (mRet (mOf (mTup (mCons (mBin dAdd (mFz (mSl (mVar 2) (mPart none) (mPart (some (mUn dNeg (M.pure (.int 1))))))) (mFz (mLst (mCons (mTup (mCons (M.pure (.int 0)) (mCons (M.pure (.int 1)) mNil))) mNil)))) (mCons (mVar 3) (mCons (mVar 4) (mCons (mVar 5) mNil))))))) mNx)
    (mSeq (mIf (mTest (mBin dEq (mVar 1) (M.pure (.int 1)))) (mRet (mOf (mTup (mCons (mFz (mLst mNil)) (mCons (mVar 3) (mCons (mVar 4) (mCons (mVar 5) mNil))))))) mNx)
    (mSeq (mIf (mTest (mBin dEq (mVar 1) (M.pure (.int 2)))) (mRet (mOf (mTup (mCons (mBin dAdd (mBin dMul (mFz (mLst (mCons (mBin dIx (mVar 2) (M.pure (.int 0))) mNil))) (mBin dSub (M.pure (.int 8)) (mCall dLen (mCons (mVar 2) mNil)))) (mFz (mSl (mVar 2) (mPart (some (M.pure (.int 1)))) (mPart none)))) (mCons (mVar 3) (mCons (mVar 4) (mCons (mVar 5) mNil))))))) mNx)
    (mSeq (mIf (mTest (mBin dEq (mVar 1) (M.pure (.int 3)))) (mRet (mOf (mTup (mCons (mBin dAdd (mVar 2) (mFz (mSl (mVar 2) (mPart none) (mPart (some (M.pure (.int 1))))))) (mCons (mVar 3) (mCons (mVar 4) (mCons (mVar 5) mNil))))))) mNx)
    (mSeq (mIf (mTest (mBin dEq (mVar 1) (M.pure (.int 4)))) (mRet (mOf (mTup (mCons (mBin dAdd (mFz (mLst (mCons (mTup (mCons (M.pure (.int 2)) (mCons (M.pure (.int 4)) mNil))) mNil))) (mFz (mSl (mVar 2) (mPart (some (M.pure (.int 1)))) (mPart none)))) (mCons (mVar 3) (mCons (mVar 4) (mCons (mVar 5) mNil))))))) mNx)
    (mSeq (mIf (mTest (mBin dEq (mVar 1) (M.pure (.int 5)))) (mRet (mOf (mTup (mCons (mBin dAdd (mFz (mSl (mVar 2) (mPart none) (mPart (some (mUn dNeg (M.pure (.int 1))))))) (mFz (mLst (mCons (mTup (mCons (M.pure (.int 1001)) (mCons (M.pure (.int 1)) mNil))) mNil)))) (mCons (mVar 3) (mCons (mVar 4) (mCons (mVar 5) mNil))))))) mNx)
    (mSeq (mIf (mTest (mBin dEq (mVar 1) (M.pure (.int 6)))) (mRet (mOf (mTup (mCons (mBin dAdd (mFz (mLst (mCons (mTup (mCons (M.pure (.int 1)) (mCons (M.pure (.int 1001)) mNil))) mNil))) (mFz (mSl (mVar 2) (mPart (some (M.pure (.int 1)))) (mPart none)))) (mCons (mVar 3) (mCons (mVar 4) (mCons (mVar 5) mNil))))))) mNx)
    (mSeq (mIf (mTest (mBin dEq (mVar 1) (M.pure (.int 7)))) (mRet (mOf (mTup (mCons (mVar 2) (mCons (mTup (mCons (mUn dNeg (M.pure (.int 1))) (mCons (M.pure (.int 2)) mNil))) (mCons (mVar 4) (mCons (mVar 5) mNil))))))) mNx)
    (mSeq (mIf (mTest (mBin dEq (mVar 1) (M.pure (.int 8)))) (mRet (mOf (mTup (mCons (mVar 2) (mCons (mVar 3) (mCons (mBin dIx (mFz (mLst (mCons (mUn dNeg (M.pure (.int 1))) (mCons (M.pure (.int 10)) mNil)))) (mCall dInt (mCons (mBin dNe (mVar 5) (M.pure (.str ""))) mNil))) (mCons (mVar 5) mNil))))))) mNx)
    (mSeq (mIf (mTest (mBin dEq (mVar 1) (M.pure (.int 9)))) (mRet (mOf (mTup (mCons (mVar 2) (mCons (mVar 3) (mCons (mVar 4) (mCons (mBin dIx (mFz (mLst (mCons (M.pure (.str "skip")) (mCons (M.pure (.str "")) mNil)))) (mCall dInt (mCons (mBin dGt (mVar 4) (M.pure (.int 0))) mNil))) mNil))))))) mNx)
    (mSeq (mIf (mTest (mBin dEq (mVar 1) (M.pure (.int 10)))) (mRet (mOf (mTup (mCons (mVar 2) (mCons (mVar 3) (mCons (M.pure (.int 9)) (mCons (mBin dIx (mFz (mLst (mCons (M.pure (.str "no")) (mCons (M.pure (.str "Stay")) (mCons (M.pure (.str "")) (mCons (M.pure (.str "stays")) mNil)))))) (mBin dMod (mCall dLen (mCons (mVar 2) mNil)) (M.pure (.int 4)))) mNil))))))) mNx)
    (mSeq (mIf (mTest (mBin dEq (mVar 1) (M.pure (.int 11)))) (mRet (mOf (mTup (mCons (mVar 2) (mCons (mBin dIx (mFz (mLst (mCons (mTup (mCons (M.pure (.int 2)) (mCons (M.pure (.int 4)) mNil))) (mCons (mTup (mCons (M.pure (.int 1001)) (mCons (M.pure (.int 1)) mNil))) (mCons (mTup (mCons (M.pure (.int 1)) (mCons (M.pure (.int 1001)) mNil))) mNil))))) (mBin dMod (mCall dLen (mCons (mVar 2) mNil)) (M.pure (.int 3)))) (mCons (mVar 4) (mCons (mVar 5) mNil))))))) mNx)
    (mRet (mOf (mTup (mCons (mBin dAdd (mFz (mLst (mCons (mTup (mCons (mUn dNeg (M.pure (.int 1))) (mCons (M.pure (.int 1)) mNil))) mNil))) (mFz (mSl (mVar 2) (mPart (some (M.pure (.int 1)))) (mPart none)))) (mCons (mVar 3) (mCons (mVar 4) (mCons (mVar 5) mNil)))))))))))))))))))
noncomputable def fn__law_of_line : List D → Rf := runF none 6 fb__law_of_line
noncomputable def t__law_of_line (v_line_here : ((List (Int × Int)) × (Int × Int) × Int × Str)) (v_way : Int) : ((List (Int × Int)) × (Int × Int) × Int × Str) :=
  bd v_line_here (fun (z1 : ((List (Int × Int)) × (Int × Int) × Int × Str)) => cond (decide (v_way = (0 : Int))) (((cut z1.1 none (some ((-(1 : Int))))) ++ ([((0 : Int), (1 : Int))] : List (Int × Int))), z1.2.1, z1.2.2.1, z1.2.2.2) (cond (decide (v_way = (1 : Int))) (([] : List (Int × Int)), z1.2.1, z1.2.2.1, z1.2.2.2) (cond (decide (v_way = (2 : Int))) (((repI (([(ix z1.1 ((0 : Int)))] : List (Int × Int))) (((8 : Int) - (z1.1.length : Int)))) ++ (cut z1.1 (some ((1 : Int))) none)), z1.2.1, z1.2.2.1, z1.2.2.2) (cond (decide (v_way = (3 : Int))) ((z1.1 ++ (cut z1.1 none (some ((1 : Int))))), z1.2.1, z1.2.2.1, z1.2.2.2) (cond (decide (v_way = (4 : Int))) ((([((2 : Int), (4 : Int))] : List (Int × Int)) ++ (cut z1.1 (some ((1 : Int))) none)), z1.2.1, z1.2.2.1, z1.2.2.2) (cond (decide (v_way = (5 : Int))) (((cut z1.1 none (some ((-(1 : Int))))) ++ ([((1001 : Int), (1 : Int))] : List (Int × Int))), z1.2.1, z1.2.2.1, z1.2.2.2) (cond (decide (v_way = (6 : Int))) ((([((1 : Int), (1001 : Int))] : List (Int × Int)) ++ (cut z1.1 (some ((1 : Int))) none)), z1.2.1, z1.2.2.1, z1.2.2.2) (cond (decide (v_way = (7 : Int))) (z1.1, ((-(1 : Int)), (2 : Int)), z1.2.2.1, z1.2.2.2) (cond (decide (v_way = (8 : Int))) (z1.1, z1.2.1, (ix (([(-(1 : Int)), (10 : Int)] : List Int)) ((Dt.b2i (!decide (z1.2.2.2 = ("" : Str)))))), z1.2.2.2) (cond (decide (v_way = (9 : Int))) (z1.1, z1.2.1, z1.2.2.1, (ix (([("skip" : Str), ("" : Str)] : List Str)) ((Dt.b2i (decide ((0 : Int) < z1.2.2.1)))))) (cond (decide (v_way = (10 : Int))) (z1.1, z1.2.1, (9 : Int), (ix (([("no" : Str), ("Stay" : Str), ("" : Str), ("stays" : Str)] : List Str)) ((((z1.1.length : Int)).fmod ((4 : Int)))))) (cond (decide (v_way = (11 : Int))) (z1.1, (ix (([((2 : Int), (4 : Int)), ((1001 : Int), (1 : Int)), ((1 : Int), (1001 : Int))] : List (Int × Int))) ((((z1.1.length : Int)).fmod ((3 : Int))))), z1.2.2.1, z1.2.2.2) ((([((-(1 : Int)), (1 : Int))] : List (Int × Int)) ++ (cut z1.1 (some ((1 : Int))) none)), z1.2.1, z1.2.2.1, z1.2.2.2)))))))))))))
def s__law_of_line (v_line_here : ((List (Int × Int)) × (Int × Int) × Int × Str)) (v_way : Int) : Prop :=
  bd v_line_here (fun (z1 : ((List (Int × Int)) × (Int × Int) × Int × Str)) => (((decide (v_way = (0 : Int))) = true → (((cut z1.1 none (some ((-(1 : Int)))))).length + (([((0 : Int), (1 : Int))] : List (Int × Int))).length ≤ 10000)) ∧ ((decide (v_way = (0 : Int))) = false → ((decide (v_way = (1 : Int))) = false → (((decide (v_way = (2 : Int))) = true → ((InB z1.1.length ((0 : Int))) ∧ ((((8 : Int) - (z1.1.length : Int))) < 10000 ∧ -10000 < (((8 : Int) - (z1.1.length : Int))) ∧ (([(ix z1.1 ((0 : Int)))] : List (Int × Int))).length ≤ 1000) ∧ (((repI (([(ix z1.1 ((0 : Int)))] : List (Int × Int))) (((8 : Int) - (z1.1.length : Int))))).length + ((cut z1.1 (some ((1 : Int))) none)).length ≤ 10000))) ∧ ((decide (v_way = (2 : Int))) = false → (((decide (v_way = (3 : Int))) = true → (z1.1.length + ((cut z1.1 none (some ((1 : Int))))).length ≤ 10000)) ∧ ((decide (v_way = (3 : Int))) = false → (((decide (v_way = (4 : Int))) = true → ((([((2 : Int), (4 : Int))] : List (Int × Int))).length + ((cut z1.1 (some ((1 : Int))) none)).length ≤ 10000)) ∧ ((decide (v_way = (4 : Int))) = false → (((decide (v_way = (5 : Int))) = true → (((cut z1.1 none (some ((-(1 : Int)))))).length + (([((1001 : Int), (1 : Int))] : List (Int × Int))).length ≤ 10000)) ∧ ((decide (v_way = (5 : Int))) = false → (((decide (v_way = (6 : Int))) = true → ((([((1 : Int), (1001 : Int))] : List (Int × Int))).length + ((cut z1.1 (some ((1 : Int))) none)).length ≤ 10000)) ∧ ((decide (v_way = (6 : Int))) = false → ((decide (v_way = (7 : Int))) = false → (((decide (v_way = (8 : Int))) = true → (InB (([(-(1 : Int)), (10 : Int)] : List Int)).length ((Dt.b2i (!decide (z1.2.2.2 = ("" : Str))))))) ∧ ((decide (v_way = (8 : Int))) = false → (((decide (v_way = (9 : Int))) = true → (InB (([("skip" : Str), ("" : Str)] : List Str)).length ((Dt.b2i (decide ((0 : Int) < z1.2.2.1)))))) ∧ ((decide (v_way = (9 : Int))) = false → (((decide (v_way = (10 : Int))) = true → (InB (([("no" : Str), ("Stay" : Str), ("" : Str), ("stays" : Str)] : List Str)).length ((((z1.1.length : Int)).fmod ((4 : Int)))))) ∧ ((decide (v_way = (10 : Int))) = false → (((decide (v_way = (11 : Int))) = true → (InB (([((2 : Int), (4 : Int)), ((1001 : Int), (1 : Int)), ((1 : Int), (1001 : Int))] : List (Int × Int))).length ((((z1.1.length : Int)).fmod ((3 : Int)))))) ∧ ((decide (v_way = (11 : Int))) = false → ((([((-(1 : Int)), (1 : Int))] : List (Int × Int))).length + ((cut z1.1 (some ((1 : Int))) none)).length ≤ 10000))))))))))))))))))))))))
theorem e__law_of_line {v_line_here : ((List (Int × Int)) × (Int × Int) × Int × Str)} {v_way : Int} (h : s__law_of_line v_line_here v_way) : fn__law_of_line [(eT4 (eL (eT2 D.int D.int)) (eT2 D.int D.int) D.int D.str) v_line_here, D.int v_way] = .ok ((eT4 (eL (eT2 D.int D.int)) (eT2 D.int D.int) D.int D.str) (t__law_of_line v_line_here v_way)) .ff .non := by
  refine run0 (F := (eT4 (eL (eT2 D.int D.int)) (eT2 D.int D.int) D.int D.str)) (o := .ff) (fb := fb__law_of_line) (x := t__law_of_line v_line_here v_way) ?_
  show JR (eT4 (eL (eT2 D.int D.int)) (eT2 D.int D.int) D.int D.str) .ff (fb__law_of_line [.fz ((eT4 (eL (eT2 D.int D.int)) (eT2 D.int D.int) D.int D.str) v_line_here), zI v_way, .un, .un, .un, .un]) _
  delta fb__law_of_line t__law_of_line
  delta s__law_of_line at h
  exact sqB (ctx := fun (z1 : ((List (Int × Int)) × (Int × Int) × Int × Str)) => [.fz ((eT4 (eL (eT2 D.int D.int)) (eT2 D.int D.int) D.int D.str) v_line_here), zI v_way, .fz ((eL (eT2 D.int D.int)) z1.1), .fz ((eT2 D.int D.int) z1.2.1), zI z1.2.2.1, .fz (D.str z1.2.2.2)]) (sAsg (vf 0 rfl) rfl) h (fun z1 h => sqIf (tst (b2 (vf 1 rfl) rfl dEq_i)) (fun hc => bdh (h.1 hc) (fun h => sqRet (mof (mtup (a1 (b2 (mfz (slL (F := (eT2 D.int D.int)) (vf 2 rfl) pt0 (pt1 (u1 rfl rfl)))) (mfz (mlst (a1 (mtup (a1 rfl (a1 rfl a0))) a0))) (o_addL (F := (eT2 D.int D.int)) (xs := (cut z1.1 none (some ((-(1 : Int)))))) (ys := ([((0 : Int), (1 : Int))] : List (Int × Int))) h)) (a1 (vf 3 rfl) (a1 (vf 4 rfl) (a1 (vf 5 rfl) a0)))))) (jr_mk rfl))) (fun hc => bdh (h.2 hc) (fun h => sq rfl (sqIf (tst (b2 (vf 1 rfl) rfl dEq_i)) (fun _ => sqRet (mof (mtup (a1 (mfz (mlst a0)) (a1 (vf 3 rfl) (a1 (vf 4 rfl) (a1 (vf 5 rfl) a0)))))) (jr_mk rfl)) (fun hc => bdh (h hc) (fun h => sq rfl (sqIf (tst (b2 (vf 1 rfl) rfl dEq_i)) (fun hc => bdh (h.1 hc) (fun h => sqRet (mof (mtup (a1 (b2 (b2 (mfz (mlst (a1 (b2 (vf 2 rfl) rfl (o_ixL (F := (eT2 D.int D.int)) (xs := z1.1) h.1)) a0))) (b2 rfl (c1 (a1 (vf 2 rfl) a0) (o_lenL (F := (eT2 D.int D.int)))) rfl) (o_mulL (F := (eT2 D.int D.int)) (xs := ([(ix z1.1 ((0 : Int)))] : List (Int × Int))) h.2.1)) (mfz (slL (F := (eT2 D.int D.int)) (vf 2 rfl) (pt1 rfl) pt0)) (o_addL (F := (eT2 D.int D.int)) (xs := (repI (([(ix z1.1 ((0 : Int)))] : List (Int × Int))) (((8 : Int) - (z1.1.length : Int))))) (ys := (cut z1.1 (some ((1 : Int))) none)) h.2.2)) (a1 (vf 3 rfl) (a1 (vf 4 rfl) (a1 (vf 5 rfl) a0)))))) (jr_mk rfl))) (fun hc => bdh (h.2 hc) (fun h => sq rfl (sqIf (tst (b2 (vf 1 rfl) rfl dEq_i)) (fun hc => bdh (h.1 hc) (fun h => sqRet (mof (mtup (a1 (b2 (vf 2 rfl) (mfz (slL (F := (eT2 D.int D.int)) (vf 2 rfl) pt0 (pt1 rfl))) (o_addL (F := (eT2 D.int D.int)) (xs := z1.1) (ys := (cut z1.1 none (some ((1 : Int))))) h)) (a1 (vf 3 rfl) (a1 (vf 4 rfl) (a1 (vf 5 rfl) a0)))))) (jr_mk rfl))) (fun hc => bdh (h.2 hc) (fun h => sq rfl (sqIf (tst (b2 (vf 1 rfl) rfl dEq_i)) (fun hc => bdh (h.1 hc) (fun h => sqRet (mof (mtup (a1 (b2 (mfz (mlst (a1 (mtup (a1 rfl (a1 rfl a0))) a0))) (mfz (slL (F := (eT2 D.int D.int)) (vf 2 rfl) (pt1 rfl) pt0)) (o_addL (F := (eT2 D.int D.int)) (xs := ([((2 : Int), (4 : Int))] : List (Int × Int))) (ys := (cut z1.1 (some ((1 : Int))) none)) h)) (a1 (vf 3 rfl) (a1 (vf 4 rfl) (a1 (vf 5 rfl) a0)))))) (jr_mk rfl))) (fun hc => bdh (h.2 hc) (fun h => sq rfl (sqIf (tst (b2 (vf 1 rfl) rfl dEq_i)) (fun hc => bdh (h.1 hc) (fun h => sqRet (mof (mtup (a1 (b2 (mfz (slL (F := (eT2 D.int D.int)) (vf 2 rfl) pt0 (pt1 (u1 rfl rfl)))) (mfz (mlst (a1 (mtup (a1 rfl (a1 rfl a0))) a0))) (o_addL (F := (eT2 D.int D.int)) (xs := (cut z1.1 none (some ((-(1 : Int)))))) (ys := ([((1001 : Int), (1 : Int))] : List (Int × Int))) h)) (a1 (vf 3 rfl) (a1 (vf 4 rfl) (a1 (vf 5 rfl) a0)))))) (jr_mk rfl))) (fun hc => bdh (h.2 hc) (fun h => sq rfl (sqIf (tst (b2 (vf 1 rfl) rfl dEq_i)) (fun hc => bdh (h.1 hc) (fun h => sqRet (mof (mtup (a1 (b2 (mfz (mlst (a1 (mtup (a1 rfl (a1 rfl a0))) a0))) (mfz (slL (F := (eT2 D.int D.int)) (vf 2 rfl) (pt1 rfl) pt0)) (o_addL (F := (eT2 D.int D.int)) (xs := ([((1 : Int), (1001 : Int))] : List (Int × Int))) (ys := (cut z1.1 (some ((1 : Int))) none)) h)) (a1 (vf 3 rfl) (a1 (vf 4 rfl) (a1 (vf 5 rfl) a0)))))) (jr_mk rfl))) (fun hc => bdh (h.2 hc) (fun h => sq rfl (sqIf (tst (b2 (vf 1 rfl) rfl dEq_i)) (fun _ => sqRet (mof (mtup (a1 (vf 2 rfl) (a1 (mtup (a1 (u1 rfl rfl) (a1 rfl a0))) (a1 (vf 4 rfl) (a1 (vf 5 rfl) a0)))))) (jr_mk rfl)) (fun hc => bdh (h hc) (fun h => sq rfl (sqIf (tst (b2 (vf 1 rfl) rfl dEq_i)) (fun hc => bdh (h.1 hc) (fun h => sqRet (mof (mtup (a1 (vf 2 rfl) (a1 (vf 3 rfl) (a1 (b2 (mfz (mlst (a1 (u1 rfl rfl) (a1 rfl a0)))) (c1 (a1 (b2 (vf 5 rfl) rfl dNe_s) a0) o_int) (o_ixL (F := D.int) (xs := ([(-(1 : Int)), (10 : Int)] : List Int)) h)) (a1 (vf 5 rfl) a0)))))) (jr_mk rfl))) (fun hc => bdh (h.2 hc) (fun h => sq rfl (sqIf (tst (b2 (vf 1 rfl) rfl dEq_i)) (fun hc => bdh (h.1 hc) (fun h => sqRet (mof (mtup (a1 (vf 2 rfl) (a1 (vf 3 rfl) (a1 (vf 4 rfl) (a1 (b2 (mfz (mlst (a1 rfl (a1 rfl a0)))) (c1 (a1 (b2 (vf 4 rfl) rfl rfl) a0) o_int) (o_ixL (F := D.str) (xs := ([("skip" : Str), ("" : Str)] : List Str)) h)) a0)))))) (jr_mk rfl))) (fun hc => bdh (h.2 hc) (fun h => sq rfl (sqIf (tst (b2 (vf 1 rfl) rfl dEq_i)) (fun hc => bdh (h.1 hc) (fun h => sqRet (mof (mtup (a1 (vf 2 rfl) (a1 (vf 3 rfl) (a1 rfl (a1 (b2 (mfz (mlst (a1 rfl (a1 rfl (a1 rfl (a1 rfl a0)))))) (b2 (c1 (a1 (vf 2 rfl) a0) (o_lenL (F := (eT2 D.int D.int)))) rfl (o_mod (show ((4 : Int)) ≠ 0 by decide))) (o_ixL (F := D.str) (xs := ([("no" : Str), ("Stay" : Str), ("" : Str), ("stays" : Str)] : List Str)) h)) a0)))))) (jr_mk rfl))) (fun hc => bdh (h.2 hc) (fun h => sq rfl (sqIf (tst (b2 (vf 1 rfl) rfl dEq_i)) (fun hc => bdh (h.1 hc) (fun h => sqRet (mof (mtup (a1 (vf 2 rfl) (a1 (b2 (mfz (mlst (a1 (mtup (a1 rfl (a1 rfl a0))) (a1 (mtup (a1 rfl (a1 rfl a0))) (a1 (mtup (a1 rfl (a1 rfl a0))) a0))))) (b2 (c1 (a1 (vf 2 rfl) a0) (o_lenL (F := (eT2 D.int D.int)))) rfl (o_mod (show ((3 : Int)) ≠ 0 by decide))) (o_ixL (F := (eT2 D.int D.int)) (xs := ([((2 : Int), (4 : Int)), ((1001 : Int), (1 : Int)), ((1 : Int), (1001 : Int))] : List (Int × Int))) h)) (a1 (vf 4 rfl) (a1 (vf 5 rfl) a0)))))) (jr_mk rfl))) (fun hc => bdh (h.2 hc) (fun h => sq rfl (sRet (mof (mtup (a1 (b2 (mfz (mlst (a1 (mtup (a1 (u1 rfl rfl) (a1 rfl a0))) a0))) (mfz (slL (F := (eT2 D.int D.int)) (vf 2 rfl) (pt1 rfl) pt0)) (o_addL (F := (eT2 D.int D.int)) (xs := ([((-(1 : Int)), (1 : Int))] : List (Int × Int))) (ys := (cut z1.1 (some ((1 : Int))) none)) h)) (a1 (vf 3 rfl) (a1 (vf 4 rfl) (a1 (vf 5 rfl) a0)))))) (jr_mk rfl))))))))))))))))))))))))))))))))))))))
noncomputable def fb__law_of_stand : M Fl :=
  mSeq (mAsg (gT 3 (gsC (gN 4) (gsC (gN 5) (gsC (gN 6) gsN)))) (mVar 0))
    (mSeq (mIf (mTest (mBin dEq (mVar 1) (M.pure (.int 0)))) (mRet (mOf (mTup (mCons (mBin dIx (mFz (mLst (mCons (mUn dNeg (M.pure (.int 1))) (mCons (mVar 2) mNil)))) (mBin dMod (mCall dLen (mCons (mVar 6) mNil)) (M.pure (.int 2)))) (mCons (mVar 5) (mCons (mVar 6) mNil)))))) mNx)
    (mSeq (mIf (mTest (mBin dEq (mVar 1) (M.pure (.int 1)))) (mRet (mOf (mTup (mCons (mVar 4) (mCons (mBin dIx (mFz (mLst (mCons (mTup (mCons (M.pure (.int 0)) (mCons (M.pure (.int 1)) mNil))) (mCons (mTup (mCons (mUn dNeg (M.pure (.int 1))) (mCons (M.pure (.int 5)) mNil))) mNil)))) (mBin dMod (mCall dLen (mCons (mVar 6) mNil)) (M.pure (.int 2)))) (mCons (mVar 6) mNil)))))) mNx)
    (mSeq (mIf (mTest (mBin dEq (mVar 1) (M.pure (.int 2)))) (mRet (mOf (mTup (mCons (mVar 4) (mCons (mVar 5) (mCons (mBin dAdd (mVar 6) (mFz (mLst (mCons (mBin dIx (mVar 6) (mUn dNeg (M.pure (.int 1)))) mNil)))) mNil)))))) mNx)
    (mSeq (mIf (mTest (mBin dEq (mVar 1) (M.pure (.int 3)))) (mRet (mOf (mTup (mCons (mVar 4) (mCons (mVar 5) (mCons (mFz (mLst (mCons (mTup (mCons (M.pure (.int 0)) (mCons (mTup (mCons (M.pure (.int 1)) (mCons (M.pure (.int 4)) mNil))) mNil))) (mCons (mTup (mCons (mVar 3) (mCons (mTup (mCons (M.pure (.int 1)) (mCons (M.pure (.int 4)) mNil))) mNil))) mNil)))) mNil)))))) mNx)
    (mSeq (mIf (mTest (mBin dEq (mVar 1) (M.pure (.int 4)))) (mRet (mOf (mTup (mCons (mVar 4) (mCons (mVar 5) (mCons (mBin dAdd (mFz (mLst (mCons (mTup (mCons (mUn dNeg (M.pure (.int 1))) (mCons (mTup (mCons (M.pure (.int 1)) (mCons (M.pure (.int 4)) mNil))) mNil))) mNil))) (mVar 6)) mNil)))))) mNx)
    (mSeq (mIf (mTest (mBin dEq (mVar 1) (M.pure (.int 5)))) (mRet (mOf (mTup (mCons (mVar 4) (mCons (mVar 5) (mCons (mBin dAdd (mFz (mSl (mVar 6) (mPart none) (mPart (some (mUn dNeg (M.pure (.int 1))))))) (mFz (mLst (mCons (mTup (mCons (mBin dIx (mBin dIx (mVar 6) (mUn dNeg (M.pure (.int 1)))) (M.pure (.int 0))) (mCons (mTup (mCons (M.pure (.int 0)) (mCons (M.pure (.int 1)) mNil))) mNil))) mNil)))) mNil)))))) mNx)
    (mSeq (mIf (mTest (mBin dEq (mVar 1) (M.pure (.int 6)))) (mRet (mOf (mTup (mCons (mVar 4) (mCons (mVar 5) (mCons (mBin dAdd (mFz (mSl (mVar 6) (mPart none) (mPart (some (mUn dNeg (M.pure (.int 1))))))) (mFz (mLst (mCons (mTup (mCons (mBin dIx (mBin dIx (mVar 6) (mUn dNeg (M.pure (.int 1)))) (M.pure (.int 0))) (mCons (mTup (mCons (M.pure (.int 1001)) (mCons (M.pure (.int 1000)) mNil))) mNil))) mNil)))) mNil)))))) mNx)
    (mSeq (mIf (mTest (mBin dEq (mVar 1) (M.pure (.int 7)))) (mRet (mOf (mTup (mCons (mVar 4) (mCons (mBin dIx (mFz (mLst (mCons (mTup (mCons (M.pure (.int 3)) (mCons (M.pure (.int 6)) mNil))) (mCons (mTup (mCons (M.pure (.int 1001)) (mCons (M.pure (.int 1)) mNil))) (mCons (mTup (mCons (M.pure (.int 1)) (mCons (M.pure (.int 1001)) mNil))) mNil))))) (mBin dAdd (mBin dMod (mCall dLen (mCons (mVar 6) mNil)) (M.pure (.int 2))) (mCall dInt (mCons (mBin dGt (mVar 3) (M.pure (.int 3))) mNil)))) (mCons (mVar 6) mNil)))))) mNx)
    (mSeq (mIf (mTest (mBin dEq (mVar 1) (M.pure (.int 8)))) (mRet (mOf (mTup (mCons (mVar 4) (mCons (mVar 5) (mCons (mBin dAdd (mFz (mSl (mVar 6) (mPart none) (mPart (some (mUn dNeg (M.pure (.int 1))))))) (mFz (mLst (mCons (mTup (mCons (mBin dIx (mBin dIx (mVar 6) (mUn dNeg (M.pure (.int 1)))) (M.pure (.int 0))) (mCons (mBin dIx (mFz (mLst (mCons (mTup (mCons (M.pure (.int 2)) (mCons (M.pure (.int 8)) mNil))) (mCons (mTup (mCons (M.pure (.int 1)) (mCons (M.pure (.int 1001)) mNil))) (mCons (mTup (mCons (mUn dNeg (M.pure (.int 1))) (mCons (M.pure (.int 4)) mNil))) mNil))))) (mBin dMod (mVar 3) (M.pure (.int 3)))) mNil))) mNil)))) mNil)))))) mNx)
    (mSeq (mIf (mAnd (mTest (mBin dEq (mVar 1) (M.pure (.int 9)))) (mTest (mBin dGt (mVar 3) (M.pure (.int 1))))) (mRet (mOf (mTup (mCons (mVar 4) (mCons (mVar 5) (mCons (mFz (mLst (mCons (mTup (mCons (M.pure (.int 0)) (mCons (mTup (mCons (M.pure (.int 2)) (mCons (M.pure (.int 3)) mNil))) mNil))) (mCons (mTup (mCons (mBin dSub (mVar 3) (M.pure (.int 1))) (mCons (mTup (mCons (M.pure (.int 2)) (mCons (M.pure (.int 3)) mNil))) mNil))) mNil)))) mNil)))))) mNx)
    (mSeq (mIf (mTest (mBin dGt (mVar 3) (M.pure (.int 1)))) (mRet (mOf (mTup (mCons (mVar 4) (mCons (mVar 5) (mCons (mFz (mLst (mCons (mTup (mCons (M.pure (.int 1)) (mCons (mTup (mCons (M.pure (.int 1)) (mCons (M.pure (.int 4)) mNil))) mNil))) (mCons (mTup (mCons (M.pure (.int 0)) (mCons (mTup (mCons (M.pure (.int 1)) (mCons (M.pure (.int 4)) mNil))) mNil))) mNil)))) mNil)))))) mNx)
    (mRet (mOf (mTup (mCons (mVar 4) (mCons (mVar 5) (mCons (mFz (mLst (mCons (mTup (mCons (M.pure (.int 0)) (mCons (mTup (mCons (M.pure (.int 3)) (mCons (M.pure (.int 2)) mNil))) mNil))) mNil))) mNil)))))))))))))))))
noncomputable def fn__law_of_stand : List D → Rf := runF none 7 fb__law_of_stand
noncomputable def t__law_of_stand (v_stand : (Int × (Int × Int) × (List (Int × (Int × Int))))) (v_way : Int) (v_lines : Int) (v_many : Int) : (Int × (Int × Int) × (List (Int × (Int × Int)))) :=
  bd v_stand (fun (z1 : (Int × (Int × Int) × (List (Int × (Int × Int))))) => cond (decide (v_way = (0 : Int))) ((ix (([(-(1 : Int)), v_lines] : List Int)) ((((z1.2.2.length : Int)).fmod ((2 : Int))))), z1.2.1, z1.2.2) (cond (decide (v_way = (1 : Int))) (z1.1, (ix (([((0 : Int), (1 : Int)), ((-(1 : Int)), (5 : Int))] : List (Int × Int))) ((((z1.2.2.length : Int)).fmod ((2 : Int))))), z1.2.2) (cond (decide (v_way = (2 : Int))) (z1.1, z1.2.1, (z1.2.2 ++ ([(ix z1.2.2 ((-(1 : Int))))] : List (Int × (Int × Int))))) (cond (decide (v_way = (3 : Int))) (z1.1, z1.2.1, ([((0 : Int), ((1 : Int), (4 : Int))), (v_many, ((1 : Int), (4 : Int)))] : List (Int × (Int × Int)))) (cond (decide (v_way = (4 : Int))) (z1.1, z1.2.1, (([((-(1 : Int)), ((1 : Int), (4 : Int)))] : List (Int × (Int × Int))) ++ z1.2.2)) (cond (decide (v_way = (5 : Int))) (z1.1, z1.2.1, ((cut z1.2.2 none (some ((-(1 : Int))))) ++ ([((ix z1.2.2 ((-(1 : Int)))).1, ((0 : Int), (1 : Int)))] : List (Int × (Int × Int))))) (cond (decide (v_way = (6 : Int))) (z1.1, z1.2.1, ((cut z1.2.2 none (some ((-(1 : Int))))) ++ ([((ix z1.2.2 ((-(1 : Int)))).1, ((1001 : Int), (1000 : Int)))] : List (Int × (Int × Int))))) (cond (decide (v_way = (7 : Int))) (z1.1, (ix (([((3 : Int), (6 : Int)), ((1001 : Int), (1 : Int)), ((1 : Int), (1001 : Int))] : List (Int × Int))) (((((z1.2.2.length : Int)).fmod ((2 : Int))) + (Dt.b2i (decide ((3 : Int) < v_many)))))), z1.2.2) (cond (decide (v_way = (8 : Int))) (z1.1, z1.2.1, ((cut z1.2.2 none (some ((-(1 : Int))))) ++ ([((ix z1.2.2 ((-(1 : Int)))).1, (ix (([((2 : Int), (8 : Int)), ((1 : Int), (1001 : Int)), ((-(1 : Int)), (4 : Int))] : List (Int × Int))) ((v_many.fmod ((3 : Int))))))] : List (Int × (Int × Int))))) (cond ((decide (v_way = (9 : Int))) && (decide ((1 : Int) < v_many))) (z1.1, z1.2.1, ([((0 : Int), ((2 : Int), (3 : Int))), ((v_many - (1 : Int)), ((2 : Int), (3 : Int)))] : List (Int × (Int × Int)))) (cond (decide ((1 : Int) < v_many)) (z1.1, z1.2.1, ([((1 : Int), ((1 : Int), (4 : Int))), ((0 : Int), ((1 : Int), (4 : Int)))] : List (Int × (Int × Int)))) (z1.1, z1.2.1, ([((0 : Int), ((3 : Int), (2 : Int)))] : List (Int × (Int × Int)))))))))))))))
def s__law_of_stand (v_stand : (Int × (Int × Int) × (List (Int × (Int × Int))))) (v_way : Int) (v_lines : Int) (v_many : Int) : Prop :=
  bd v_stand (fun (z1 : (Int × (Int × Int) × (List (Int × (Int × Int))))) => (((decide (v_way = (0 : Int))) = true → (InB (([(-(1 : Int)), v_lines] : List Int)).length ((((z1.2.2.length : Int)).fmod ((2 : Int)))))) ∧ ((decide (v_way = (0 : Int))) = false → (((decide (v_way = (1 : Int))) = true → (InB (([((0 : Int), (1 : Int)), ((-(1 : Int)), (5 : Int))] : List (Int × Int))).length ((((z1.2.2.length : Int)).fmod ((2 : Int)))))) ∧ ((decide (v_way = (1 : Int))) = false → (((decide (v_way = (2 : Int))) = true → ((InB z1.2.2.length ((-(1 : Int)))) ∧ (z1.2.2.length + (([(ix z1.2.2 ((-(1 : Int))))] : List (Int × (Int × Int)))).length ≤ 10000))) ∧ ((decide (v_way = (2 : Int))) = false → ((decide (v_way = (3 : Int))) = false → (((decide (v_way = (4 : Int))) = true → ((([((-(1 : Int)), ((1 : Int), (4 : Int)))] : List (Int × (Int × Int)))).length + z1.2.2.length ≤ 10000)) ∧ ((decide (v_way = (4 : Int))) = false → (((decide (v_way = (5 : Int))) = true → ((InB z1.2.2.length ((-(1 : Int)))) ∧ (((cut z1.2.2 none (some ((-(1 : Int)))))).length + (([((ix z1.2.2 ((-(1 : Int)))).1, ((0 : Int), (1 : Int)))] : List (Int × (Int × Int)))).length ≤ 10000))) ∧ ((decide (v_way = (5 : Int))) = false → (((decide (v_way = (6 : Int))) = true → ((InB z1.2.2.length ((-(1 : Int)))) ∧ (((cut z1.2.2 none (some ((-(1 : Int)))))).length + (([((ix z1.2.2 ((-(1 : Int)))).1, ((1001 : Int), (1000 : Int)))] : List (Int × (Int × Int)))).length ≤ 10000))) ∧ ((decide (v_way = (6 : Int))) = false → (((decide (v_way = (7 : Int))) = true → (InB (([((3 : Int), (6 : Int)), ((1001 : Int), (1 : Int)), ((1 : Int), (1001 : Int))] : List (Int × Int))).length (((((z1.2.2.length : Int)).fmod ((2 : Int))) + (Dt.b2i (decide ((3 : Int) < v_many))))))) ∧ ((decide (v_way = (7 : Int))) = false → ((decide (v_way = (8 : Int))) = true → ((InB z1.2.2.length ((-(1 : Int)))) ∧ (InB (([((2 : Int), (8 : Int)), ((1 : Int), (1001 : Int)), ((-(1 : Int)), (4 : Int))] : List (Int × Int))).length ((v_many.fmod ((3 : Int))))) ∧ (((cut z1.2.2 none (some ((-(1 : Int)))))).length + (([((ix z1.2.2 ((-(1 : Int)))).1, (ix (([((2 : Int), (8 : Int)), ((1 : Int), (1001 : Int)), ((-(1 : Int)), (4 : Int))] : List (Int × Int))) ((v_many.fmod ((3 : Int))))))] : List (Int × (Int × Int)))).length ≤ 10000)))))))))))))))))))
theorem e__law_of_stand {v_stand : (Int × (Int × Int) × (List (Int × (Int × Int))))} {v_way : Int} {v_lines : Int} {v_many : Int} (h : s__law_of_stand v_stand v_way v_lines v_many) : fn__law_of_stand [(eT3 D.int (eT2 D.int D.int) (eL (eT2 D.int (eT2 D.int D.int)))) v_stand, D.int v_way, D.int v_lines, D.int v_many] = .ok ((eT3 D.int (eT2 D.int D.int) (eL (eT2 D.int (eT2 D.int D.int)))) (t__law_of_stand v_stand v_way v_lines v_many)) .ff .non := by
  refine run0 (F := (eT3 D.int (eT2 D.int D.int) (eL (eT2 D.int (eT2 D.int D.int))))) (o := .ff) (fb := fb__law_of_stand) (x := t__law_of_stand v_stand v_way v_lines v_many) ?_
  show JR (eT3 D.int (eT2 D.int D.int) (eL (eT2 D.int (eT2 D.int D.int)))) .ff (fb__law_of_stand [.fz ((eT3 D.int (eT2 D.int D.int) (eL (eT2 D.int (eT2 D.int D.int)))) v_stand), zI v_way, zI v_lines, zI v_many, .un, .un, .un]) _
  delta fb__law_of_stand t__law_of_stand
  delta s__law_of_stand at h
  exact sqB (ctx := fun (z1 : (Int × (Int × Int) × (List (Int × (Int × Int))))) => [.fz ((eT3 D.int (eT2 D.int D.int) (eL (eT2 D.int (eT2 D.int D.int)))) v_stand), zI v_way, zI v_lines, zI v_many, zI z1.1, .fz ((eT2 D.int D.int) z1.2.1), .fz ((eL (eT2 D.int (eT2 D.int D.int))) z1.2.2)]) (sAsg (vf 0 rfl) rfl) h (fun z1 h => sqIf (tst (b2 (vf 1 rfl) rfl dEq_i)) (fun hc => bdh (h.1 hc) (fun h => sqRet (mof (mtup (a1 (b2 (mfz (mlst (a1 (u1 rfl rfl) (a1 (vf 2 rfl) a0)))) (b2 (c1 (a1 (vf 6 rfl) a0) (o_lenL (F := (eT2 D.int (eT2 D.int D.int))))) rfl (o_mod (show ((2 : Int)) ≠ 0 by decide))) (o_ixL (F := D.int) (xs := ([(-(1 : Int)), v_lines] : List Int)) h)) (a1 (vf 5 rfl) (a1 (vf 6 rfl) a0))))) (jr_mk rfl))) (fun hc => bdh (h.2 hc) (fun h => sq rfl (sqIf (tst (b2 (vf 1 rfl) rfl dEq_i)) (fun hc => bdh (h.1 hc) (fun h => sqRet (mof (mtup (a1 (vf 4 rfl) (a1 (b2 (mfz (mlst (a1 (mtup (a1 rfl (a1 rfl a0))) (a1 (mtup (a1 (u1 rfl rfl) (a1 rfl a0))) a0)))) (b2 (c1 (a1 (vf 6 rfl) a0) (o_lenL (F := (eT2 D.int (eT2 D.int D.int))))) rfl (o_mod (show ((2 : Int)) ≠ 0 by decide))) (o_ixL (F := (eT2 D.int D.int)) (xs := ([((0 : Int), (1 : Int)), ((-(1 : Int)), (5 : Int))] : List (Int × Int))) h)) (a1 (vf 6 rfl) a0))))) (jr_mk rfl))) (fun hc => bdh (h.2 hc) (fun h => sq rfl (sqIf (tst (b2 (vf 1 rfl) rfl dEq_i)) (fun hc => bdh (h.1 hc) (fun h => sqRet (mof (mtup (a1 (vf 4 rfl) (a1 (vf 5 rfl) (a1 (b2 (vf 6 rfl) (mfz (mlst (a1 (b2 (vf 6 rfl) (u1 rfl rfl) (o_ixL (F := (eT2 D.int (eT2 D.int D.int))) (xs := z1.2.2) h.1)) a0))) (o_addL (F := (eT2 D.int (eT2 D.int D.int))) (xs := z1.2.2) (ys := ([(ix z1.2.2 ((-(1 : Int))))] : List (Int × (Int × Int)))) h.2)) a0))))) (jr_mk rfl))) (fun hc => bdh (h.2 hc) (fun h => sq rfl (sqIf (tst (b2 (vf 1 rfl) rfl dEq_i)) (fun _ => sqRet (mof (mtup (a1 (vf 4 rfl) (a1 (vf 5 rfl) (a1 (mfz (mlst (a1 (mtup (a1 rfl (a1 (mtup (a1 rfl (a1 rfl a0))) a0))) (a1 (mtup (a1 (vf 3 rfl) (a1 (mtup (a1 rfl (a1 rfl a0))) a0))) a0)))) a0))))) (jr_mk rfl)) (fun hc => bdh (h hc) (fun h => sq rfl (sqIf (tst (b2 (vf 1 rfl) rfl dEq_i)) (fun hc => bdh (h.1 hc) (fun h => sqRet (mof (mtup (a1 (vf 4 rfl) (a1 (vf 5 rfl) (a1 (b2 (mfz (mlst (a1 (mtup (a1 (u1 rfl rfl) (a1 (mtup (a1 rfl (a1 rfl a0))) a0))) a0))) (vf 6 rfl) (o_addL (F := (eT2 D.int (eT2 D.int D.int))) (xs := ([((-(1 : Int)), ((1 : Int), (4 : Int)))] : List (Int × (Int × Int)))) (ys := z1.2.2) h)) a0))))) (jr_mk rfl))) (fun hc => bdh (h.2 hc) (fun h => sq rfl (sqIf (tst (b2 (vf 1 rfl) rfl dEq_i)) (fun hc => bdh (h.1 hc) (fun h => sqRet (mof (mtup (a1 (vf 4 rfl) (a1 (vf 5 rfl) (a1 (b2 (mfz (slL (F := (eT2 D.int (eT2 D.int D.int))) (vf 6 rfl) pt0 (pt1 (u1 rfl rfl)))) (mfz (mlst (a1 (mtup (a1 (b2 (b2 (vf 6 rfl) (u1 rfl rfl) (o_ixL (F := (eT2 D.int (eT2 D.int D.int))) (xs := z1.2.2) h.1)) rfl rfl) (a1 (mtup (a1 rfl (a1 rfl a0))) a0))) a0))) (o_addL (F := (eT2 D.int (eT2 D.int D.int))) (xs := (cut z1.2.2 none (some ((-(1 : Int)))))) (ys := ([((ix z1.2.2 ((-(1 : Int)))).1, ((0 : Int), (1 : Int)))] : List (Int × (Int × Int)))) h.2)) a0))))) (jr_mk rfl))) (fun hc => bdh (h.2 hc) (fun h => sq rfl (sqIf (tst (b2 (vf 1 rfl) rfl dEq_i)) (fun hc => bdh (h.1 hc) (fun h => sqRet (mof (mtup (a1 (vf 4 rfl) (a1 (vf 5 rfl) (a1 (b2 (mfz (slL (F := (eT2 D.int (eT2 D.int D.int))) (vf 6 rfl) pt0 (pt1 (u1 rfl rfl)))) (mfz (mlst (a1 (mtup (a1 (b2 (b2 (vf 6 rfl) (u1 rfl rfl) (o_ixL (F := (eT2 D.int (eT2 D.int D.int))) (xs := z1.2.2) h.1)) rfl rfl) (a1 (mtup (a1 rfl (a1 rfl a0))) a0))) a0))) (o_addL (F := (eT2 D.int (eT2 D.int D.int))) (xs := (cut z1.2.2 none (some ((-(1 : Int)))))) (ys := ([((ix z1.2.2 ((-(1 : Int)))).1, ((1001 : Int), (1000 : Int)))] : List (Int × (Int × Int)))) h.2)) a0))))) (jr_mk rfl))) (fun hc => bdh (h.2 hc) (fun h => sq rfl (sqIf (tst (b2 (vf 1 rfl) rfl dEq_i)) (fun hc => bdh (h.1 hc) (fun h => sqRet (mof (mtup (a1 (vf 4 rfl) (a1 (b2 (mfz (mlst (a1 (mtup (a1 rfl (a1 rfl a0))) (a1 (mtup (a1 rfl (a1 rfl a0))) (a1 (mtup (a1 rfl (a1 rfl a0))) a0))))) (b2 (b2 (c1 (a1 (vf 6 rfl) a0) (o_lenL (F := (eT2 D.int (eT2 D.int D.int))))) rfl (o_mod (show ((2 : Int)) ≠ 0 by decide))) (c1 (a1 (b2 (vf 3 rfl) rfl rfl) a0) o_int) rfl) (o_ixL (F := (eT2 D.int D.int)) (xs := ([((3 : Int), (6 : Int)), ((1001 : Int), (1 : Int)), ((1 : Int), (1001 : Int))] : List (Int × Int))) h)) (a1 (vf 6 rfl) a0))))) (jr_mk rfl))) (fun hc => bdh (h.2 hc) (fun h => sq rfl (sqIf (tst (b2 (vf 1 rfl) rfl dEq_i)) (fun hc => bdh (h hc) (fun h => sqRet (mof (mtup (a1 (vf 4 rfl) (a1 (vf 5 rfl) (a1 (b2 (mfz (slL (F := (eT2 D.int (eT2 D.int D.int))) (vf 6 rfl) pt0 (pt1 (u1 rfl rfl)))) (mfz (mlst (a1 (mtup (a1 (b2 (b2 (vf 6 rfl) (u1 rfl rfl) (o_ixL (F := (eT2 D.int (eT2 D.int D.int))) (xs := z1.2.2) h.1)) rfl rfl) (a1 (b2 (mfz (mlst (a1 (mtup (a1 rfl (a1 rfl a0))) (a1 (mtup (a1 rfl (a1 rfl a0))) (a1 (mtup (a1 (u1 rfl rfl) (a1 rfl a0))) a0))))) (b2 (vf 3 rfl) rfl (o_mod (show ((3 : Int)) ≠ 0 by decide))) (o_ixL (F := (eT2 D.int D.int)) (xs := ([((2 : Int), (8 : Int)), ((1 : Int), (1001 : Int)), ((-(1 : Int)), (4 : Int))] : List (Int × Int))) h.2.1)) a0))) a0))) (o_addL (F := (eT2 D.int (eT2 D.int D.int))) (xs := (cut z1.2.2 none (some ((-(1 : Int)))))) (ys := ([((ix z1.2.2 ((-(1 : Int)))).1, (ix (([((2 : Int), (8 : Int)), ((1 : Int), (1001 : Int)), ((-(1 : Int)), (4 : Int))] : List (Int × Int))) ((v_many.fmod ((3 : Int))))))] : List (Int × (Int × Int)))) h.2.2)) a0))))) (jr_mk rfl))) (fun _ => sq rfl (sqIf (an (tst (b2 (vf 1 rfl) rfl dEq_i)) (fun hc2 => tst (b2 (vf 3 rfl) rfl rfl))) (fun _ => sqRet (mof (mtup (a1 (vf 4 rfl) (a1 (vf 5 rfl) (a1 (mfz (mlst (a1 (mtup (a1 rfl (a1 (mtup (a1 rfl (a1 rfl a0))) a0))) (a1 (mtup (a1 (b2 (vf 3 rfl) rfl rfl) (a1 (mtup (a1 rfl (a1 rfl a0))) a0))) a0)))) a0))))) (jr_mk rfl)) (fun _ => sq rfl (sqIf (tst (b2 (vf 3 rfl) rfl rfl)) (fun _ => sqRet (mof (mtup (a1 (vf 4 rfl) (a1 (vf 5 rfl) (a1 (mfz (mlst (a1 (mtup (a1 rfl (a1 (mtup (a1 rfl (a1 rfl a0))) a0))) (a1 (mtup (a1 rfl (a1 (mtup (a1 rfl (a1 rfl a0))) a0))) a0)))) a0))))) (jr_mk rfl)) (fun _ => sq rfl (sRet (mof (mtup (a1 (vf 4 rfl) (a1 (vf 5 rfl) (a1 (mfz (mlst (a1 (mtup (a1 rfl (a1 (mtup (a1 rfl (a1 rfl a0))) a0))) a0))) a0))))) (jr_mk rfl))))))))))))))))))))))))))))))))
noncomputable def fb__law_of_comers : M Fl :=
  mSeq (mAsg (gT 2 (gsC (gN 2) (gsC (gN 3) gsN))) (mVar 0))
    (mSeq (mIf (mTest (mBin dEq (mVar 1) (M.pure (.int 0)))) (mRet (mOf (mTup (mCons (mBin dIx (mFz (mLst (mCons (M.pure (.str "Open")) (mCons (M.pure (.str "wide")) (mCons (M.pure (.str "")) (mCons (M.pure (.str "shut ")) mNil)))))) (mBin dMod (mCall dLen (mCons (mVar 3) mNil)) (M.pure (.int 4)))) (mCons (mVar 3) mNil))))) mNx)
    (mSeq (mIf (mTest (mBin dEq (mVar 1) (M.pure (.int 1)))) (mRet (mOf (mTup (mCons (mVar 2) (mCons (mFz (mSl (mVar 3) (mPart none) (mPart (some (mUn dNeg (M.pure (.int 1))))))) mNil))))) mNx)
    (mSeq (mIf (mTest (mBin dEq (mVar 1) (M.pure (.int 2)))) (mRet (mOf (mTup (mCons (mVar 2) (mCons (mBin dAdd (mVar 3) (mFz (mSl (mVar 3) (mPart none) (mPart (some (M.pure (.int 1))))))) mNil))))) mNx)
    (mSeq (mIf (mTest (mBin dEq (mVar 2) (M.pure (.str "open")))) (mSeq (mSet 4 (mOf (mBin dIx (mFz (mLst (mCons (mFz (mLst (mCons (mTup (mCons (M.pure (.int 0)) (mCons (M.pure (.int 1)) mNil))) mNil))) (mCons (mFz (mLst (mCons (mTup (mCons (mUn dNeg (M.pure (.int 1))) (mCons (M.pure (.int 3)) mNil))) mNil))) (mCons (mFz (mLst (mCons (mTup (mCons (M.pure (.int 1)) (mCons (M.pure (.int 2000)) mNil))) mNil))) (mCons (mFz (mLst (mCons (mTup (mCons (M.pure (.int 2)) (mCons (M.pure (.int 4)) mNil))) mNil))) (mCons (mFz (mLst (mCons (mTup (mCons (M.pure (.int 1001)) (mCons (M.pure (.int 1)) mNil))) mNil))) mNil))))))) (mBin dMod (mVar 1) (M.pure (.int 5))))))
    (mSeq (mIf (mTest (mBin dEq (mVar 4) (mFz (mLst (mCons (mTup (mCons (M.pure (.int 0)) (mCons (M.pure (.int 1)) mNil))) mNil))))) (mRet (mOf (mTup (mCons (mVar 2) (mCons (mBin dMul (mVar 4) (mCall dLen (mCons (mVar 3) mNil))) mNil))))) mNx)
    (mRet (mOf (mTup (mCons (mVar 2) (mCons (mBin dAdd (mFz (mSl (mVar 3) (mPart none) (mPart (some (mUn dNeg (M.pure (.int 1))))))) (mVar 4)) mNil))))))) mNx)
    (mSeq (mIf (mTest (mBin dEq (mBin dMod (mVar 1) (M.pure (.int 3))) (M.pure (.int 0)))) (mRet (mOf (mTup (mCons (mVar 2) (mCons (mBin dMul (mFz (mLst (mCons (M.pure (.int 0)) mNil))) (mCall dLen (mCons (mVar 3) mNil))) mNil))))) mNx)
    (mSeq (mIf (mAnd (mTest (mBin dEq (mBin dMod (mVar 1) (M.pure (.int 3))) (M.pure (.int 1)))) (mTest (mBin dGt (mCall dLen (mCons (mVar 3) mNil)) (M.pure (.int 1))))) (mRet (mOf (mTup (mCons (mVar 2) (mCons (mBin dAdd (mFz (mLst (mCons (M.pure (.int 5)) (mCons (M.pure (.int 4)) mNil)))) (mBin dMul (mFz (mLst (mCons (M.pure (.int 0)) mNil))) (mBin dSub (mCall dLen (mCons (mVar 3) mNil)) (M.pure (.int 2))))) mNil))))) mNx)
    (mSeq (mIf (mTest (mBin dEq (mBin dMod (mVar 1) (M.pure (.int 3))) (M.pure (.int 1)))) (mRet (mOf (mTup (mCons (mVar 2) (mCons (mFz (mLst (mCons (M.pure (.int 9)) mNil))) mNil))))) mNx)
    (mRet (mOf (mTup (mCons (mVar 2) (mCons (mBin dAdd (mFz (mLst (mCons (mUn dNeg (M.pure (.int 1))) mNil))) (mFz (mLc [5] (mIter (mFz (mSl (mVar 3) (mPart (some (M.pure (.int 1)))) (mPart none)))) (gN 5) (M.pure true) (mBin dAdd (mVar 5) (M.pure (.int 2)))))) mNil))))))))))))
noncomputable def fn__law_of_comers : List D → Rf := runF none 6 fb__law_of_comers
noncomputable def t__law_of_comers (v_comers : (Str × (List Raw.PE))) (v_way : Int) : (Str × (List Raw.PE)) :=
  bd v_comers (fun (z1 : (Str × (List Raw.PE))) => cond (decide (v_way = (0 : Int))) ((ix (([("Open" : Str), ("wide" : Str), ("" : Str), ("shut " : Str)] : List Str)) ((((z1.2.length : Int)).fmod ((4 : Int))))), z1.2) (cond (decide (v_way = (1 : Int))) (z1.1, (cut z1.2 none (some ((-(1 : Int)))))) (cond (decide (v_way = (2 : Int))) (z1.1, (z1.2 ++ (cut z1.2 none (some ((1 : Int)))))) (cond (decide (z1.1 = ("open" : Str))) (bd (ix (([([((0 : Int), (1 : Int))] : List (Int × Int)), ([((-(1 : Int)), (3 : Int))] : List (Int × Int)), ([((1 : Int), (2000 : Int))] : List (Int × Int)), ([((2 : Int), (4 : Int))] : List (Int × Int)), ([((1001 : Int), (1 : Int))] : List (Int × Int))] : List (List (Int × Int)))) ((v_way.fmod ((5 : Int))))) (fun (v_some_2 : (List (Int × Int))) => cond (decide (v_some_2 = ([((0 : Int), (1 : Int))] : List (Int × Int)))) (z1.1, (((repI v_some_2 ((z1.2.length : Int)))).map Sum.inl : List Raw.PE)) (z1.1, ((cut z1.2 none (some ((-(1 : Int))))) ++ (v_some_2.map Sum.inl : List Raw.PE))))) (cond (decide ((v_way.fmod ((3 : Int))) = (0 : Int))) (z1.1, (((repI (([(0 : Int)] : List Int)) ((z1.2.length : Int)))).map Sum.inr : List Raw.PE)) (cond ((decide ((v_way.fmod ((3 : Int))) = (1 : Int))) && (decide ((1 : Int) < (z1.2.length : Int)))) (z1.1, (((([(5 : Int), (4 : Int)] : List Int) ++ (repI (([(0 : Int)] : List Int)) (((z1.2.length : Int) - (2 : Int)))))).map Sum.inr : List Raw.PE)) (cond (decide ((v_way.fmod ((3 : Int))) = (1 : Int))) (z1.1, ((([(9 : Int)] : List Int)).map Sum.inr : List Raw.PE)) (z1.1, (((([(-(1 : Int))] : List Int) ++ ((cut z1.2 (some ((1 : Int))) none).map (fun (xv4 : Raw.PE) => ((Raw.peI xv4) + (2 : Int)))))).map Sum.inr : List Raw.PE)))))))))
def s__law_of_comers (v_comers : (Str × (List Raw.PE))) (v_way : Int) : Prop :=
  bd v_comers (fun (z1 : (Str × (List Raw.PE))) => (((decide (v_way = (0 : Int))) = true → (InB (([("Open" : Str), ("wide" : Str), ("" : Str), ("shut " : Str)] : List Str)).length ((((z1.2.length : Int)).fmod ((4 : Int)))))) ∧ ((decide (v_way = (0 : Int))) = false → ((decide (v_way = (1 : Int))) = false → (((decide (v_way = (2 : Int))) = true → (z1.2.length + ((cut z1.2 none (some ((1 : Int))))).length ≤ 10000)) ∧ ((decide (v_way = (2 : Int))) = false → (((decide (z1.1 = ("open" : Str))) = true → ((InB (([([((0 : Int), (1 : Int))] : List (Int × Int)), ([((-(1 : Int)), (3 : Int))] : List (Int × Int)), ([((1 : Int), (2000 : Int))] : List (Int × Int)), ([((2 : Int), (4 : Int))] : List (Int × Int)), ([((1001 : Int), (1 : Int))] : List (Int × Int))] : List (List (Int × Int)))).length ((v_way.fmod ((5 : Int))))) ∧ (bd (ix (([([((0 : Int), (1 : Int))] : List (Int × Int)), ([((-(1 : Int)), (3 : Int))] : List (Int × Int)), ([((1 : Int), (2000 : Int))] : List (Int × Int)), ([((2 : Int), (4 : Int))] : List (Int × Int)), ([((1001 : Int), (1 : Int))] : List (Int × Int))] : List (List (Int × Int)))) ((v_way.fmod ((5 : Int))))) (fun (v_some_2 : (List (Int × Int))) => (((decide (v_some_2 = ([((0 : Int), (1 : Int))] : List (Int × Int)))) = true → (((z1.2.length : Int)) < 10000 ∧ -10000 < ((z1.2.length : Int)) ∧ v_some_2.length ≤ 1000)) ∧ ((decide (v_some_2 = ([((0 : Int), (1 : Int))] : List (Int × Int)))) = false → (((cut z1.2 none (some ((-(1 : Int)))))).length + ((v_some_2.map Sum.inl : List Raw.PE)).length ≤ 10000))))))) ∧ ((decide (z1.1 = ("open" : Str))) = false → (((decide ((v_way.fmod ((3 : Int))) = (0 : Int))) = true → (((z1.2.length : Int)) < 10000 ∧ -10000 < ((z1.2.length : Int)) ∧ (([(0 : Int)] : List Int)).length ≤ 1000)) ∧ ((decide ((v_way.fmod ((3 : Int))) = (0 : Int))) = false → ((((decide ((v_way.fmod ((3 : Int))) = (1 : Int))) && (decide ((1 : Int) < (z1.2.length : Int)))) = true → (((((z1.2.length : Int) - (2 : Int))) < 10000 ∧ -10000 < (((z1.2.length : Int) - (2 : Int))) ∧ (([(0 : Int)] : List Int)).length ≤ 1000) ∧ ((([(5 : Int), (4 : Int)] : List Int)).length + ((repI (([(0 : Int)] : List Int)) (((z1.2.length : Int) - (2 : Int))))).length ≤ 10000))) ∧ (((decide ((v_way.fmod ((3 : Int))) = (1 : Int))) && (decide ((1 : Int) < (z1.2.length : Int)))) = false → ((decide ((v_way.fmod ((3 : Int))) = (1 : Int))) = false → ((∀ xv4 ∈ (cut z1.2 (some ((1 : Int))) none), ((xv4.isRight = true))) ∧ (((cut z1.2 (some ((1 : Int))) none)).length ≤ 10000) ∧ ((([(-(1 : Int))] : List Int)).length + (((cut z1.2 (some ((1 : Int))) none).map (fun (xv4 : Raw.PE) => ((Raw.peI xv4) + (2 : Int))))).length ≤ 10000)))))))))))))))
theorem e__law_of_comers {v_comers : (Str × (List Raw.PE))} {v_way : Int} (h : s__law_of_comers v_comers v_way) : fn__law_of_comers [(eT2 D.str (eL Raw.ePE)) v_comers, D.int v_way] = .ok ((eT2 D.str (eL Raw.ePE)) (t__law_of_comers v_comers v_way)) .ff .non := by
  refine run0 (F := (eT2 D.str (eL Raw.ePE))) (o := .ff) (fb := fb__law_of_comers) (x := t__law_of_comers v_comers v_way) ?_
  show JR (eT2 D.str (eL Raw.ePE)) .ff (fb__law_of_comers [.fz ((eT2 D.str (eL Raw.ePE)) v_comers), zI v_way, .un, .un, .un, .un]) _
  delta fb__law_of_comers t__law_of_comers
  delta s__law_of_comers at h
  exact sqB (ctx := fun (z1 : (Str × (List Raw.PE))) => [.fz ((eT2 D.str (eL Raw.ePE)) v_comers), zI v_way, .fz (D.str z1.1), .fz ((eL Raw.ePE) z1.2), .un, .un]) (sAsg (vf 0 rfl) rfl) h (fun z1 h => sqIf (tst (b2 (vf 1 rfl) rfl dEq_i)) (fun hc => bdh (h.1 hc) (fun h => sqRet (mof (mtup (a1 (b2 (mfz (mlst (a1 rfl (a1 rfl (a1 rfl (a1 rfl a0)))))) (b2 (c1 (a1 (vf 3 rfl) a0) (o_lenL (F := Raw.ePE))) rfl (o_mod (show ((4 : Int)) ≠ 0 by decide))) (o_ixL (F := D.str) (xs := ([("Open" : Str), ("wide" : Str), ("" : Str), ("shut " : Str)] : List Str)) h)) (a1 (vf 3 rfl) a0)))) (jr_mk rfl))) (fun hc => bdh (h.2 hc) (fun h => sq rfl (sqIf (tst (b2 (vf 1 rfl) rfl dEq_i)) (fun _ => sqRet (mof (mtup (a1 (vf 2 rfl) (a1 (mfz (slL (F := Raw.ePE) (vf 3 rfl) pt0 (pt1 (u1 rfl rfl)))) a0)))) (jr_mk rfl)) (fun hc => bdh (h hc) (fun h => sq rfl (sqIf (tst (b2 (vf 1 rfl) rfl dEq_i)) (fun hc => bdh (h.1 hc) (fun h => sqRet (mof (mtup (a1 (vf 2 rfl) (a1 (b2 (vf 3 rfl) (mfz (slL (F := Raw.ePE) (vf 3 rfl) pt0 (pt1 rfl))) (o_addL (F := Raw.ePE) (xs := z1.2) (ys := (cut z1.2 none (some ((1 : Int))))) h)) a0)))) (jr_mk rfl))) (fun hc => bdh (h.2 hc) (fun h => sq rfl (sqIf (tst (b2 (vf 2 rfl) rfl dEq_s)) (fun hc => bdh (h.1 hc) (fun h => sAss (sqB (ctx := fun (v_some_2 : (List (Int × Int))) => [.fz ((eT2 D.str (eL Raw.ePE)) v_comers), zI v_way, .fz (D.str z1.1), .fz ((eL Raw.ePE) z1.2), .fz ((eL (eT2 D.int D.int)) v_some_2), .un]) (sSet (mof (b2 (mfz (mlst (a1 (mfz (mlst (a1 (mtup (a1 rfl (a1 rfl a0))) a0))) (a1 (mfz (mlst (a1 (mtup (a1 (u1 rfl rfl) (a1 rfl a0))) a0))) (a1 (mfz (mlst (a1 (mtup (a1 rfl (a1 rfl a0))) a0))) (a1 (mfz (mlst (a1 (mtup (a1 rfl (a1 rfl a0))) a0))) (a1 (mfz (mlst (a1 (mtup (a1 rfl (a1 rfl a0))) a0))) a0))))))) (b2 (vf 1 rfl) rfl (o_mod (show ((5 : Int)) ≠ 0 by decide))) (o_ixL (F := (eL (eT2 D.int D.int))) (xs := ([([((0 : Int), (1 : Int))] : List (Int × Int)), ([((-(1 : Int)), (3 : Int))] : List (Int × Int)), ([((1 : Int), (2000 : Int))] : List (Int × Int)), ([((2 : Int), (4 : Int))] : List (Int × Int)), ([((1001 : Int), (1 : Int))] : List (Int × Int))] : List (List (Int × Int)))) h.1))) rfl) h.2 (fun v_some_2 h => sAss (sqIf (tst (b2 (vf 4 rfl) (mfz (mlst (a1 (mtup (a1 rfl (a1 rfl a0))) a0))) ((o_eq (F := (eL (eT2 D.int D.int))) (x := v_some_2) (y := ([((0 : Int), (1 : Int))] : List (Int × Int))) (gL (gT2 gI gI)))))) (fun hc => bdh (h.1 hc) (fun h => sqRet (mof (mtup (a1 (vf 2 rfl) (a1 ((Raw.cLP (xs := (repI v_some_2 ((z1.2.length : Int)))) (b2 (vf 4 rfl) (c1 (a1 (vf 3 rfl) a0) (o_lenL (F := Raw.ePE))) (o_mulL (F := (eT2 D.int D.int)) (xs := v_some_2) h)))) a0)))) (jr_mk rfl))) (fun hc => bdh (h.2 hc) (fun h => sq rfl (sqRet (mof (mtup (a1 (vf 2 rfl) (a1 (b2 (mfz (slL (F := Raw.ePE) (vf 3 rfl) pt0 (pt1 (u1 rfl rfl)))) ((Raw.cLP (xs := v_some_2) (vf 4 rfl))) (o_addL (F := Raw.ePE) (xs := (cut z1.2 none (some ((-(1 : Int)))))) (ys := (v_some_2.map Sum.inl : List Raw.PE)) h)) a0)))) (jr_mk rfl))))))))) (fun hc => bdh (h.2 hc) (fun h => sq rfl (sqIf (tst (b2 (b2 (vf 1 rfl) rfl (o_mod (show ((3 : Int)) ≠ 0 by decide))) rfl dEq_i)) (fun hc => bdh (h.1 hc) (fun h => sqRet (mof (mtup (a1 (vf 2 rfl) (a1 ((Raw.cLI (xs := (repI (([(0 : Int)] : List Int)) ((z1.2.length : Int)))) (b2 (mfz (mlst (a1 rfl a0))) (c1 (a1 (vf 3 rfl) a0) (o_lenL (F := Raw.ePE))) (o_mulL (F := D.int) (xs := ([(0 : Int)] : List Int)) h)))) a0)))) (jr_mk rfl))) (fun hc => bdh (h.2 hc) (fun h => sq rfl (sqIf (an (tst (b2 (b2 (vf 1 rfl) rfl (o_mod (show ((3 : Int)) ≠ 0 by decide))) rfl dEq_i)) (fun hc3 => tst (b2 (c1 (a1 (vf 3 rfl) a0) (o_lenL (F := Raw.ePE))) rfl rfl))) (fun hc => bdh (h.1 hc) (fun h => sqRet (mof (mtup (a1 (vf 2 rfl) (a1 ((Raw.cLI (xs := (([(5 : Int), (4 : Int)] : List Int) ++ (repI (([(0 : Int)] : List Int)) (((z1.2.length : Int) - (2 : Int)))))) (b2 (mfz (mlst (a1 rfl (a1 rfl a0)))) (b2 (mfz (mlst (a1 rfl a0))) (b2 (c1 (a1 (vf 3 rfl) a0) (o_lenL (F := Raw.ePE))) rfl rfl) (o_mulL (F := D.int) (xs := ([(0 : Int)] : List Int)) h.1)) (o_addL (F := D.int) (xs := ([(5 : Int), (4 : Int)] : List Int)) (ys := (repI (([(0 : Int)] : List Int)) (((z1.2.length : Int) - (2 : Int))))) h.2)))) a0)))) (jr_mk rfl))) (fun hc => bdh (h.2 hc) (fun h => sq rfl (sqIf (tst (b2 (b2 (vf 1 rfl) rfl (o_mod (show ((3 : Int)) ≠ 0 by decide))) rfl dEq_i)) (fun _ => sqRet (mof (mtup (a1 (vf 2 rfl) (a1 ((Raw.cLI (xs := ([(9 : Int)] : List Int)) (mfz (mlst (a1 rfl a0))))) a0)))) (jr_mk rfl)) (fun hc => bdh (h hc) (fun h => sq rfl (sRet (mof (mtup (a1 (vf 2 rfl) (a1 ((Raw.cLI (xs := (([(-(1 : Int))] : List Int) ++ ((cut z1.2 (some ((1 : Int))) none).map (fun (xv4 : Raw.PE) => ((Raw.peI xv4) + (2 : Int)))))) (b2 (mfz (mlst (a1 (u1 rfl rfl) a0))) (mfz (lcM (F := Raw.ePE) (G := D.int) (φ := fun (xv4 : Raw.PE) => ((Raw.peI xv4) + (2 : Int))) (ρ1 := [.fz ((eT2 D.str (eL Raw.ePE)) v_comers), zI v_way, .fz (D.str z1.1), .fz ((eL Raw.ePE) z1.2), .un, .un]) (i_L (F := Raw.ePE) (mfz (slL (F := Raw.ePE) (vf 3 rfl) (pt1 rfl) pt0))) rfl (fun xv4 hx5 => ⟨_, rfl, rfl, _, b2 ((Raw.cPEI (vf 5 rfl) (h.1 xv4 hx5))) rfl rfl, rfl⟩) h.2.1 rfl)) (o_addL (F := D.int) (xs := ([(-(1 : Int))] : List Int)) (ys := ((cut z1.2 (some ((1 : Int))) none).map (fun (xv4 : Raw.PE) => ((Raw.peI xv4) + (2 : Int))))) h.2.2)))) a0)))) (jr_mk rfl)))))))))))))))))))))))
noncomputable def fb__law_by_kind : M Fl :=
  mSeq (mAsg (gT 3 (gsC (gN 6) (gsC (gN 7) (gsC (gN 8) gsN)))) (mVar 1))
    (mSeq (mSet 3 (mCallN 2 (some 0) Std.fn__law_take (xS 0 (xV (mCall dLen (mCons (mVar 6) mNil)) xNil))))
    (mSeq (mAsg (gT 4 (gsC (gN 9) (gsC (gN 10) (gsC (gN 11) (gsC (gN 12) gsN))))) (mBin dIx (mVar 6) (mVar 3)))
    (mSeq (mIf (mTest (mBin dEq (mVar 2) (M.pure (.str "wide")))) (mSeq (mSet 13 (mOf (mBin dIx (mFz (mLst (mCons (mTup (mCons (mVar 9) (mCons (mTup (mCons (M.pure (.int 1)) (mCons (M.pure (.int 2)) mNil))) (mCons (M.pure (.int 0)) (mCons (M.pure (.str "")) mNil))))) (mCons (mTup (mCons (mVar 9) (mCons (mVar 10) (mCons (M.pure (.int 3)) (mCons (M.pure (.str "skip")) mNil))))) mNil)))) (mFz (mCallN 2 (some 0) Std.fn__law_take (xS 0 (xV (M.pure (.int 2)) xNil)))))))
    (mSeq (mIf (mTest (mBin dEq (mCall dLen (mCons (mVar 6) mNil)) (M.pure (.int 1)))) (mSeq (mSet 13 (mOf (mTup (mCons (mVar 9) (mCons (mTup (mCons (M.pure (.int 1)) (mCons (M.pure (.int 2)) mNil))) (mCons (M.pure (.int 0)) (mCons (M.pure (.str "")) mNil)))))))
    mNx) mNx)
    (mRet (mOf (mTup (mCons (mBin dAdd (mBin dAdd (mFz (mSl (mVar 6) (mPart none) (mPart (some (mVar 3))))) (mFz (mLst (mCons (mVar 13) mNil)))) (mFz (mSl (mVar 6) (mPart (some (mBin dAdd (mVar 3) (M.pure (.int 1))))) (mPart none)))) (mCons (mVar 7) (mCons (mVar 8) mNil)))))))) mNx)
    (mSeq (mIf (mTest (mBin dEq (mVar 2) (M.pure (.str "tight")))) (mRet (mOf (mTup (mCons (mBin dAdd (mVar 6) (mFz (mLst (mCons (mTup (mCons (mVar 9) (mCons (mVar 10) (mCons (M.pure (.int 0)) (mCons (M.pure (.str "")) mNil))))) mNil)))) (mCons (mBin dAdd (mVar 7) (mFz (mLst (mCons (mTup (mCons (mCall dLen (mCons (mVar 6) mNil)) (mCons (mTup (mCons (M.pure (.int 1)) (mCons (M.pure (.int 1)) mNil))) (mCons (mFz (mLst mNil)) mNil)))) mNil)))) (mCons (mTup (mCons (M.pure (.str "open")) (mCons (mBin dAdd (mBin dIx (mVar 8) (M.pure (.int 1))) (mFz (mLst (mCons (mTup (mCons (M.pure (.int 1)) (mCons (M.pure (.int 2)) mNil))) mNil)))) mNil))) mNil)))))) mNx)
    (mSeq (mSet 4 (mCallN 2 (some 0) Std.fn__law_take (xS 0 (xV (M.pure (.int 3)) xNil))))
    (mSeq (mIf (mTest (mBin dEq (mVar 4) (M.pure (.int 0)))) (mRet (mOf (mTup (mCons (mVar 6) (mCons (mBin dAdd (mFz (mLst (mCons (mTup (mCons (mBin dIx (mBin dIx (mVar 7) (M.pure (.int 0))) (M.pure (.int 0))) (mCons (mBin dIx (mBin dIx (mVar 7) (M.pure (.int 0))) (M.pure (.int 1))) (mCons (mFz (mLst (mCons (mTup (mCons (M.pure (.int 0)) (mCons (mTup (mCons (M.pure (.int 1)) (mCons (M.pure (.int 2)) mNil))) mNil))) mNil))) mNil)))) mNil))) (mFz (mSl (mVar 7) (mPart (some (M.pure (.int 1)))) (mPart none)))) (mCons (mVar 8) mNil)))))) mNx)
    (mSeq (mIf (mTest (mBin dEq (mVar 4) (M.pure (.int 1)))) (mRet (mOf (mTup (mCons (mBin dAdd (mBin dAdd (mFz (mSl (mVar 6) (mPart none) (mPart (some (mVar 3))))) (mFz (mLst (mCons (mTup (mCons (mVar 9) (mCons (mVar 10) (mCons (M.pure (.int 9)) (mCons (M.pure (.str "lose")) mNil))))) mNil)))) (mFz (mSl (mVar 6) (mPart (some (mBin dAdd (mVar 3) (M.pure (.int 1))))) (mPart none)))) (mCons (mVar 7) (mCons (mVar 8) mNil)))))) mNx)
    (mSeq (mSet 5 (mLc [14] (mRange1 (mCons (mCall dLen (mCons (mVar 6) mNil)) mNil)) (gN 14) (M.pure true) (mCall dSum (mCons (mFz (mLc [16, 15] (mZip (mCons (mBin dIx (mVar 8) (M.pure (.int 1))) (mCons (mVar 7) mNil))) (gT 2 (gsC (gN 16) (gsC (gN 15) gsN))) (mTest (mBin dEq (mBin dIx (mVar 15) (M.pure (.int 0))) (mVar 14))) (mVar 16))) mNil))))
    (mSeq (mSet 3 (mOf (mTh thV 5 (mIndexL 5 (mCall dMaxL (mCons (mVar 5) mNil))))))
    (mSeq (mIf (mTest (mBin dEq (mPeek 5 (mVar 3)) (M.pure (.int 1)))) (mSeq (mSet 8 (mOf (mTup (mCons (M.pure (.str "shut")) (mCons (mFz (mLc [15] (mIter (mBin dIx (mVar 8) (M.pure (.int 1)))) (gN 15) (M.pure true) (mBin dMul (M.pure (.int 2)) (mVar 15)))) mNil)))))
    (mSeq (mPutAt 5 (M.pure (.int 2)) (mVar 3))
    mNx)) mNx)
    (mRet (mOf (mTup (mCons (mBin dAdd (mBin dAdd (mFz (mSl (mVar 6) (mPart none) (mPart (some (mVar 3))))) (mFz (mLst (mCons (mTup (mCons (mBin dIx (mBin dIx (mVar 6) (mVar 3)) (M.pure (.int 0))) (mCons (mVar 10) (mCons (mBin dSub (mPeek 5 (mVar 3)) (M.pure (.int 1))) (mCons (M.pure (.str "stay")) mNil))))) mNil)))) (mFz (mSl (mVar 6) (mPart (some (mBin dAdd (mVar 3) (M.pure (.int 1))))) (mPart none)))) (mCons (mVar 7) (mCons (mVar 8) mNil))))))))))))))))
noncomputable def fn__law_by_kind : List D → Rf := runF (some 0) 17 fb__law_by_kind
noncomputable def t__law_by_kind (v_stream_here : Std.Stm) (v_handed : ((List ((List (Int × Int)) × (Int × Int) × Int × Str)) × (List (Int × (Int × Int) × (List (Int × (Int × Int))))) × (Str × (List Raw.PE)))) (v_kind : Str) : (((List ((List (Int × Int)) × (Int × Int) × Int × Str)) × (List (Int × (Int × Int) × (List (Int × (Int × Int))))) × (Str × (List Raw.PE))) × Std.Stm) :=
  bd v_handed (fun (z1 : ((List ((List (Int × Int)) × (Int × Int) × Int × Str)) × (List (Int × (Int × Int) × (List (Int × (Int × Int))))) × (Str × (List Raw.PE)))) => bd ((Std.t__law_take v_stream_here ((z1.1.length : Int))).2, (Std.t__law_take v_stream_here ((z1.1.length : Int))).1) (fun (z2 : (Std.Stm × Int)) => bd (ix z1.1 z2.2) (fun (z3 : ((List (Int × Int)) × (Int × Int) × Int × Str)) => cond (decide (v_kind = ("wide" : Str))) (bd ((Std.t__law_take z2.1 ((2 : Int))).2, (ix (([(z3.1, ((1 : Int), (2 : Int)), (0 : Int), ("" : Str)), (z3.1, z3.2.1, (3 : Int), ("skip" : Str))] : List ((List (Int × Int)) × (Int × Int) × Int × Str))) ((Std.t__law_take z2.1 ((2 : Int))).1))) (fun (z4 : (Std.Stm × ((List (Int × Int)) × (Int × Int) × Int × Str))) => bd (cond (decide ((z1.1.length : Int) = (1 : Int))) (bd (z3.1, ((1 : Int), (2 : Int)), (0 : Int), ("" : Str)) (fun (v_line_here_6 : ((List (Int × Int)) × (Int × Int) × Int × Str)) => v_line_here_6)) z4.2) (fun (z8 : (((List (Int × Int)) × (Int × Int) × Int × Str))) => (((((cut z1.1 none (some z2.2)) ++ ([z8] : List ((List (Int × Int)) × (Int × Int) × Int × Str))) ++ (cut z1.1 (some ((z2.2 + (1 : Int)))) none)), z1.2.1, z1.2.2), z4.1)))) (cond (decide (v_kind = ("tight" : Str))) (((z1.1 ++ ([(z3.1, z3.2.1, (0 : Int), ("" : Str))] : List ((List (Int × Int)) × (Int × Int) × Int × Str))), (z1.2.1 ++ ([((z1.1.length : Int), ((1 : Int), (1 : Int)), ([] : List (Int × (Int × Int))))] : List (Int × (Int × Int) × (List (Int × (Int × Int)))))), (("open" : Str), (z1.2.2.2 ++ ((([((1 : Int), (2 : Int))] : List (Int × Int))).map Sum.inl : List Raw.PE)))), z2.1) (bd ((Std.t__law_take z2.1 ((3 : Int))).2, (Std.t__law_take z2.1 ((3 : Int))).1) (fun (z9 : (Std.Stm × Int)) => cond (decide (z9.2 = (0 : Int))) ((z1.1, (([((ix z1.2.1 ((0 : Int))).1, (ix z1.2.1 ((0 : Int))).2.1, ([((0 : Int), ((1 : Int), (2 : Int)))] : List (Int × (Int × Int))))] : List (Int × (Int × Int) × (List (Int × (Int × Int))))) ++ (cut z1.2.1 (some ((1 : Int))) none)), z1.2.2), z9.1) (cond (decide (z9.2 = (1 : Int))) (((((cut z1.1 none (some z2.2)) ++ ([(z3.1, z3.2.1, (9 : Int), ("lose" : Str))] : List ((List (Int × Int)) × (Int × Int) × Int × Str))) ++ (cut z1.1 (some ((z2.2 + (1 : Int)))) none)), z1.2.1, z1.2.2), z9.1) (bd ((rangeI 0 ((z1.1.length : Int))).map (fun (xv10 : Int) => ((((((z1.2.2.2.zip z1.2.1).filter (fun (xv11 : (Raw.PE × (Int × (Int × Int) × (List (Int × (Int × Int)))))) => (decide (xv11.2.1 = xv10)))).map (fun (xv11 : (Raw.PE × (Int × (Int × Int) × (List (Int × (Int × Int)))))) => xv11.1))).map Raw.peI)).sum)) (fun (v_begins_16 : (List Int)) => bd ((fstI v_begins_16 ((maxL v_begins_16)) : Nat) : Int) (fun (v_at_17 : Int) => bd (cond (decide ((ix v_begins_16 v_at_17) = (1 : Int))) (bd (("shut" : Str), (((z1.2.2.2.map (fun (xv23 : Raw.PE) => ((2 : Int) * (Raw.peI xv23))))).map Sum.inr : List Raw.PE)) (fun (v_comers_26 : (Str × (List Raw.PE))) => bd (setI v_begins_16 v_at_17 ((2 : Int))) (fun (v_begins_27 : (List Int)) => (v_begins_27, v_comers_26)))) (v_begins_16, z1.2.2)) (fun (z29 : ((List Int) × (Str × (List Raw.PE)))) => (((((cut z1.1 none (some v_at_17)) ++ ([((ix z1.1 v_at_17).1, z3.2.1, ((ix z29.1 v_at_17) - (1 : Int)), ("stay" : Str))] : List ((List (Int × Int)) × (Int × Int) × Int × Str))) ++ (cut z1.1 (some ((v_at_17 + (1 : Int)))) none)), z1.2.1, z29.2), z9.1))))))))))))
def s__law_by_kind (v_stream_here : Std.Stm) (v_handed : ((List ((List (Int × Int)) × (Int × Int) × Int × Str)) × (List (Int × (Int × Int) × (List (Int × (Int × Int))))) × (Str × (List Raw.PE)))) (v_kind : Str) : Prop :=
  bd v_handed (fun (z1 : ((List ((List (Int × Int)) × (Int × Int) × Int × Str)) × (List (Int × (Int × Int) × (List (Int × (Int × Int))))) × (Str × (List Raw.PE)))) => ((0 < ((z1.1.length : Int))) ∧ (bd ((Std.t__law_take v_stream_here ((z1.1.length : Int))).2, (Std.t__law_take v_stream_here ((z1.1.length : Int))).1) (fun (z2 : (Std.Stm × Int)) => ((InB z1.1.length z2.2) ∧ (bd (ix z1.1 z2.2) (fun (z3 : ((List (Int × Int)) × (Int × Int) × Int × Str)) => (((decide (v_kind = ("wide" : Str))) = true → ((InB (([(z3.1, ((1 : Int), (2 : Int)), (0 : Int), ("" : Str)), (z3.1, z3.2.1, (3 : Int), ("skip" : Str))] : List ((List (Int × Int)) × (Int × Int) × Int × Str))).length ((Std.t__law_take z2.1 ((2 : Int))).1)) ∧ (bd ((Std.t__law_take z2.1 ((2 : Int))).2, (ix (([(z3.1, ((1 : Int), (2 : Int)), (0 : Int), ("" : Str)), (z3.1, z3.2.1, (3 : Int), ("skip" : Str))] : List ((List (Int × Int)) × (Int × Int) × Int × Str))) ((Std.t__law_take z2.1 ((2 : Int))).1))) (fun (z4 : (Std.Stm × ((List (Int × Int)) × (Int × Int) × Int × Str))) => bd (cond (decide ((z1.1.length : Int) = (1 : Int))) (bd (z3.1, ((1 : Int), (2 : Int)), (0 : Int), ("" : Str)) (fun (v_line_here_6 : ((List (Int × Int)) × (Int × Int) × Int × Str)) => v_line_here_6)) z4.2) (fun (z8 : (((List (Int × Int)) × (Int × Int) × Int × Str))) => ((((cut z1.1 none (some z2.2))).length + (([z8] : List ((List (Int × Int)) × (Int × Int) × Int × Str))).length ≤ 10000) ∧ ((((cut z1.1 none (some z2.2)) ++ ([z8] : List ((List (Int × Int)) × (Int × Int) × Int × Str)))).length + ((cut z1.1 (some ((z2.2 + (1 : Int)))) none)).length ≤ 10000))))))) ∧ ((decide (v_kind = ("wide" : Str))) = false → (((decide (v_kind = ("tight" : Str))) = true → ((z1.1.length + (([(z3.1, z3.2.1, (0 : Int), ("" : Str))] : List ((List (Int × Int)) × (Int × Int) × Int × Str))).length ≤ 10000) ∧ (z1.2.1.length + (([((z1.1.length : Int), ((1 : Int), (1 : Int)), ([] : List (Int × (Int × Int))))] : List (Int × (Int × Int) × (List (Int × (Int × Int)))))).length ≤ 10000) ∧ (z1.2.2.2.length + (((([((1 : Int), (2 : Int))] : List (Int × Int))).map Sum.inl : List Raw.PE)).length ≤ 10000))) ∧ ((decide (v_kind = ("tight" : Str))) = false → bd ((Std.t__law_take z2.1 ((3 : Int))).2, (Std.t__law_take z2.1 ((3 : Int))).1) (fun (z9 : (Std.Stm × Int)) => (((decide (z9.2 = (0 : Int))) = true → ((InB z1.2.1.length ((0 : Int))) ∧ (InB z1.2.1.length ((0 : Int))) ∧ ((([((ix z1.2.1 ((0 : Int))).1, (ix z1.2.1 ((0 : Int))).2.1, ([((0 : Int), ((1 : Int), (2 : Int)))] : List (Int × (Int × Int))))] : List (Int × (Int × Int) × (List (Int × (Int × Int)))))).length + ((cut z1.2.1 (some ((1 : Int))) none)).length ≤ 10000))) ∧ ((decide (z9.2 = (0 : Int))) = false → (((decide (z9.2 = (1 : Int))) = true → ((((cut z1.1 none (some z2.2))).length + (([(z3.1, z3.2.1, (9 : Int), ("lose" : Str))] : List ((List (Int × Int)) × (Int × Int) × Int × Str))).length ≤ 10000) ∧ ((((cut z1.1 none (some z2.2)) ++ ([(z3.1, z3.2.1, (9 : Int), ("lose" : Str))] : List ((List (Int × Int)) × (Int × Int) × Int × Str)))).length + ((cut z1.1 (some ((z2.2 + (1 : Int)))) none)).length ≤ 10000))) ∧ ((decide (z9.2 = (1 : Int))) = false → ((-100000000 < ((z1.1.length : Int)) ∧ ((z1.1.length : Int)) < 100000000) ∧ (∀ xv10 ∈ (rangeI 0 ((z1.1.length : Int))), (((((z1.2.2.2.zip z1.2.1)).length ≤ 10000) ∧ ((∀ x ∈ (((z1.2.2.2.zip z1.2.1).filter (fun (xv11 : (Raw.PE × (Int × (Int × Int) × (List (Int × (Int × Int)))))) => (decide (xv11.2.1 = xv10)))).map (fun (xv11 : (Raw.PE × (Int × (Int × Int) × (List (Int × (Int × Int)))))) => xv11.1)), x.isRight = true))))) ∧ (((rangeI 0 ((z1.1.length : Int)))).length ≤ 10000) ∧ (bd ((rangeI 0 ((z1.1.length : Int))).map (fun (xv10 : Int) => ((((((z1.2.2.2.zip z1.2.1).filter (fun (xv11 : (Raw.PE × (Int × (Int × Int) × (List (Int × (Int × Int)))))) => (decide (xv11.2.1 = xv10)))).map (fun (xv11 : (Raw.PE × (Int × (Int × Int) × (List (Int × (Int × Int)))))) => xv11.1))).map Raw.peI)).sum)) (fun (v_begins_16 : (List Int)) => ((v_begins_16 ≠ []) ∧ (((maxL v_begins_16)) ∈ v_begins_16) ∧ (bd ((fstI v_begins_16 ((maxL v_begins_16)) : Nat) : Int) (fun (v_at_17 : Int) => ((InB v_begins_16.length v_at_17) ∧ ((decide ((ix v_begins_16 v_at_17) = (1 : Int))) = true → ((∀ xv23 ∈ z1.2.2.2, (((xv23.isRight = true) ∧ (mulOk ((2 : Int)) ((Raw.peI xv23)) = true)))) ∧ (z1.2.2.2.length ≤ 10000) ∧ (bd (("shut" : Str), (((z1.2.2.2.map (fun (xv23 : Raw.PE) => ((2 : Int) * (Raw.peI xv23))))).map Sum.inr : List Raw.PE)) (fun (v_comers_26 : (Str × (List Raw.PE))) => (InB v_begins_16.length v_at_17))))) ∧ (bd (cond (decide ((ix v_begins_16 v_at_17) = (1 : Int))) (bd (("shut" : Str), (((z1.2.2.2.map (fun (xv23 : Raw.PE) => ((2 : Int) * (Raw.peI xv23))))).map Sum.inr : List Raw.PE)) (fun (v_comers_26 : (Str × (List Raw.PE))) => bd (setI v_begins_16 v_at_17 ((2 : Int))) (fun (v_begins_27 : (List Int)) => (v_begins_27, v_comers_26)))) (v_begins_16, z1.2.2)) (fun (z29 : ((List Int) × (Str × (List Raw.PE)))) => ((InB z1.1.length v_at_17) ∧ (InB z29.1.length v_at_17) ∧ (((cut z1.1 none (some v_at_17))).length + (([((ix z1.1 v_at_17).1, z3.2.1, ((ix z29.1 v_at_17) - (1 : Int)), ("stay" : Str))] : List ((List (Int × Int)) × (Int × Int) × Int × Str))).length ≤ 10000) ∧ ((((cut z1.1 none (some v_at_17)) ++ ([((ix z1.1 v_at_17).1, z3.2.1, ((ix z29.1 v_at_17) - (1 : Int)), ("stay" : Str))] : List ((List (Int × Int)) × (Int × Int) × Int × Str)))).length + ((cut z1.1 (some ((v_at_17 + (1 : Int)))) none)).length ≤ 10000)))))))))))))))))))))))))))
theorem e__law_by_kind {v_stream_here : Std.Stm} {v_handed : ((List ((List (Int × Int)) × (Int × Int) × Int × Str)) × (List (Int × (Int × Int) × (List (Int × (Int × Int))))) × (Str × (List Raw.PE)))} {v_kind : Str} (h : s__law_by_kind v_stream_here v_handed v_kind) : fn__law_by_kind [Std.eStm v_stream_here, (eT3 (eL (eT4 (eL (eT2 D.int D.int)) (eT2 D.int D.int) D.int D.str)) (eL (eT3 D.int (eT2 D.int D.int) (eL (eT2 D.int (eT2 D.int D.int))))) (eT2 D.str (eL Raw.ePE))) v_handed, D.str v_kind] = .ok ((eT3 (eL (eT4 (eL (eT2 D.int D.int)) (eT2 D.int D.int) D.int D.str)) (eL (eT3 D.int (eT2 D.int D.int) (eL (eT2 D.int (eT2 D.int D.int))))) (eT2 D.str (eL Raw.ePE))) (t__law_by_kind v_stream_here v_handed v_kind).1) .ff (Std.eStm (t__law_by_kind v_stream_here v_handed v_kind).2) := by
  refine runI (F := (eT3 (eL (eT4 (eL (eT2 D.int D.int)) (eT2 D.int D.int) D.int D.str)) (eL (eT3 D.int (eT2 D.int D.int) (eL (eT2 D.int (eT2 D.int D.int))))) (eT2 D.str (eL Raw.ePE)))) (G := Std.eStm) (o := .ff) (fb := fb__law_by_kind) (x := t__law_by_kind v_stream_here v_handed v_kind) ?_
  show JI 0 (eT3 (eL (eT4 (eL (eT2 D.int D.int)) (eT2 D.int D.int) D.int D.str)) (eL (eT3 D.int (eT2 D.int D.int) (eL (eT2 D.int (eT2 D.int D.int))))) (eT2 D.str (eL Raw.ePE))) Std.eStm .ff (fb__law_by_kind [.io (Std.eStm v_stream_here), .fz ((eT3 (eL (eT4 (eL (eT2 D.int D.int)) (eT2 D.int D.int) D.int D.str)) (eL (eT3 D.int (eT2 D.int D.int) (eL (eT2 D.int (eT2 D.int D.int))))) (eT2 D.str (eL Raw.ePE))) v_handed), .fz (D.str v_kind), .un, .un, .un, .un, .un, .un, .un, .un, .un, .un, .un, .un, .un, .un]) _
  delta fb__law_by_kind t__law_by_kind
  delta s__law_by_kind at h
  exact sqB (ctx := fun (z1 : ((List ((List (Int × Int)) × (Int × Int) × Int × Str)) × (List (Int × (Int × Int) × (List (Int × (Int × Int))))) × (Str × (List Raw.PE)))) => [.io (Std.eStm v_stream_here), .fz ((eT3 (eL (eT4 (eL (eT2 D.int D.int)) (eT2 D.int D.int) D.int D.str)) (eL (eT3 D.int (eT2 D.int D.int) (eL (eT2 D.int (eT2 D.int D.int))))) (eT2 D.str (eL Raw.ePE))) v_handed), .fz (D.str v_kind), .un, .un, .un, .fz ((eL (eT4 (eL (eT2 D.int D.int)) (eT2 D.int D.int) D.int D.str)) z1.1), .fz ((eL (eT3 D.int (eT2 D.int D.int) (eL (eT2 D.int (eT2 D.int D.int))))) z1.2.1), .fz ((eT2 D.str (eL Raw.ePE)) z1.2.2), .un, .un, .un, .un, .un, .un, .un, .un]) (sAsg (vf 1 rfl) rfl) h (fun z1 h => sqB (ctx := fun (z2 : (Std.Stm × Int)) => [.io (Std.eStm z2.1), .fz ((eT3 (eL (eT4 (eL (eT2 D.int D.int)) (eT2 D.int D.int) D.int D.str)) (eL (eT3 D.int (eT2 D.int D.int) (eL (eT2 D.int (eT2 D.int D.int))))) (eT2 D.str (eL Raw.ePE))) v_handed), .fz (D.str v_kind), zI z2.2, .un, .un, .fz ((eL (eT4 (eL (eT2 D.int D.int)) (eT2 D.int D.int) D.int D.str)) z1.1), .fz ((eL (eT3 D.int (eT2 D.int D.int) (eL (eT2 D.int (eT2 D.int D.int))))) z1.2.1), .fz ((eT2 D.str (eL Raw.ePE)) z1.2.2), .un, .un, .un, .un, .un, .un, .un, .un]) (sSet (cN (x1s (i := 0) rfl rfl (x1 (c1 (a1 (vf 6 rfl) a0) (o_lenL (F := (eT4 (eL (eT2 D.int D.int)) (eT2 D.int D.int) D.int D.str)))) x0)) rfl rfl (Std.e__law_take (s := v_stream_here) (most := (z1.1.length : Int)) h.1 :) rfl) rfl) h.2 (fun z2 h => sqB (ctx := fun (z3 : ((List (Int × Int)) × (Int × Int) × Int × Str)) => [.io (Std.eStm z2.1), .fz ((eT3 (eL (eT4 (eL (eT2 D.int D.int)) (eT2 D.int D.int) D.int D.str)) (eL (eT3 D.int (eT2 D.int D.int) (eL (eT2 D.int (eT2 D.int D.int))))) (eT2 D.str (eL Raw.ePE))) v_handed), .fz (D.str v_kind), zI z2.2, .un, .un, .fz ((eL (eT4 (eL (eT2 D.int D.int)) (eT2 D.int D.int) D.int D.str)) z1.1), .fz ((eL (eT3 D.int (eT2 D.int D.int) (eL (eT2 D.int (eT2 D.int D.int))))) z1.2.1), .fz ((eT2 D.str (eL Raw.ePE)) z1.2.2), .fz ((eL (eT2 D.int D.int)) z3.1), .fz ((eT2 D.int D.int) z3.2.1), zI z3.2.2.1, .fz (D.str z3.2.2.2), .un, .un, .un, .un]) (sAsg (b2 (vf 6 rfl) (vf 3 rfl) (o_ixL (F := (eT4 (eL (eT2 D.int D.int)) (eT2 D.int D.int) D.int D.str)) (xs := z1.1) h.1)) rfl) h.2 (fun z3 h => sqIf (tst (b2 (vf 2 rfl) rfl dEq_s)) (fun hc => bdh (h.1 hc) (fun h => sAss (sqB (ctx := fun (z4 : (Std.Stm × ((List (Int × Int)) × (Int × Int) × Int × Str))) => [.io (Std.eStm z4.1), .fz ((eT3 (eL (eT4 (eL (eT2 D.int D.int)) (eT2 D.int D.int) D.int D.str)) (eL (eT3 D.int (eT2 D.int D.int) (eL (eT2 D.int (eT2 D.int D.int))))) (eT2 D.str (eL Raw.ePE))) v_handed), .fz (D.str v_kind), zI z2.2, .un, .un, .fz ((eL (eT4 (eL (eT2 D.int D.int)) (eT2 D.int D.int) D.int D.str)) z1.1), .fz ((eL (eT3 D.int (eT2 D.int D.int) (eL (eT2 D.int (eT2 D.int D.int))))) z1.2.1), .fz ((eT2 D.str (eL Raw.ePE)) z1.2.2), .fz ((eL (eT2 D.int D.int)) z3.1), .fz ((eT2 D.int D.int) z3.2.1), zI z3.2.2.1, .fz (D.str z3.2.2.2), .fz ((eT4 (eL (eT2 D.int D.int)) (eT2 D.int D.int) D.int D.str) z4.2), .un, .un, .un]) (sSet (mof (b2 (mfz (mlst (a1 (mtup (a1 (vf 9 rfl) (a1 (mtup (a1 rfl (a1 rfl a0))) (a1 rfl (a1 rfl a0))))) (a1 (mtup (a1 (vf 9 rfl) (a1 (vf 10 rfl) (a1 rfl (a1 rfl a0))))) a0)))) (mfz (cN (x1s (i := 0) rfl rfl (x1 rfl x0)) rfl rfl (Std.e__law_take (s := z2.1) (most := (2 : Int)) (show 0 < ((2 : Int)) by decide) :) rfl)) (o_ixL (F := (eT4 (eL (eT2 D.int D.int)) (eT2 D.int D.int) D.int D.str)) (xs := ([(z3.1, ((1 : Int), (2 : Int)), (0 : Int), ("" : Str)), (z3.1, z3.2.1, (3 : Int), ("skip" : Str))] : List ((List (Int × Int)) × (Int × Int) × Int × Str))) h.1))) rfl) h.2 (fun z4 h => sAss (sqB (ctx := fun (z8 : (((List (Int × Int)) × (Int × Int) × Int × Str))) => [.io (Std.eStm z4.1), .fz ((eT3 (eL (eT4 (eL (eT2 D.int D.int)) (eT2 D.int D.int) D.int D.str)) (eL (eT3 D.int (eT2 D.int D.int) (eL (eT2 D.int (eT2 D.int D.int))))) (eT2 D.str (eL Raw.ePE))) v_handed), .fz (D.str v_kind), zI z2.2, .un, .un, .fz ((eL (eT4 (eL (eT2 D.int D.int)) (eT2 D.int D.int) D.int D.str)) z1.1), .fz ((eL (eT3 D.int (eT2 D.int D.int) (eL (eT2 D.int (eT2 D.int D.int))))) z1.2.1), .fz ((eT2 D.str (eL Raw.ePE)) z1.2.2), .fz ((eL (eT2 D.int D.int)) z3.1), .fz ((eT2 D.int D.int) z3.2.1), zI z3.2.2.1, .fz (D.str z3.2.2.2), .fz ((eT4 (eL (eT2 D.int D.int)) (eT2 D.int D.int) D.int D.str) z8), .un, .un, .un]) (ifJ (ctx := fun (z7 : (((List (Int × Int)) × (Int × Int) × Int × Str))) => [.io (Std.eStm z4.1), .fz ((eT3 (eL (eT4 (eL (eT2 D.int D.int)) (eT2 D.int D.int) D.int D.str)) (eL (eT3 D.int (eT2 D.int D.int) (eL (eT2 D.int (eT2 D.int D.int))))) (eT2 D.str (eL Raw.ePE))) v_handed), .fz (D.str v_kind), zI z2.2, .un, .un, .fz ((eL (eT4 (eL (eT2 D.int D.int)) (eT2 D.int D.int) D.int D.str)) z1.1), .fz ((eL (eT3 D.int (eT2 D.int D.int) (eL (eT2 D.int (eT2 D.int D.int))))) z1.2.1), .fz ((eT2 D.str (eL Raw.ePE)) z1.2.2), .fz ((eL (eT2 D.int D.int)) z3.1), .fz ((eT2 D.int D.int) z3.2.1), zI z3.2.2.1, .fz (D.str z3.2.2.2), .fz ((eT4 (eL (eT2 D.int D.int)) (eT2 D.int D.int) D.int D.str) z7), .un, .un, .un]) (v := bd (z3.1, ((1 : Int), (2 : Int)), (0 : Int), ("" : Str)) (fun (v_line_here_6 : ((List (Int × Int)) × (Int × Int) × Int × Str)) => v_line_here_6)) (w := z4.2) (tst (b2 (c1 (a1 (vf 6 rfl) a0) (o_lenL (F := (eT4 (eL (eT2 D.int D.int)) (eT2 D.int D.int) D.int D.str)))) rfl dEq_i)) (fun _ => jnE (ctx := fun (z7 : (((List (Int × Int)) × (Int × Int) × Int × Str))) => [.io (Std.eStm z4.1), .fz ((eT3 (eL (eT4 (eL (eT2 D.int D.int)) (eT2 D.int D.int) D.int D.str)) (eL (eT3 D.int (eT2 D.int D.int) (eL (eT2 D.int (eT2 D.int D.int))))) (eT2 D.str (eL Raw.ePE))) v_handed), .fz (D.str v_kind), zI z2.2, .un, .un, .fz ((eL (eT4 (eL (eT2 D.int D.int)) (eT2 D.int D.int) D.int D.str)) z1.1), .fz ((eL (eT3 D.int (eT2 D.int D.int) (eL (eT2 D.int (eT2 D.int D.int))))) z1.2.1), .fz ((eT2 D.str (eL Raw.ePE)) z1.2.2), .fz ((eL (eT2 D.int D.int)) z3.1), .fz ((eT2 D.int D.int) z3.2.1), zI z3.2.2.1, .fz (D.str z3.2.2.2), .fz ((eT4 (eL (eT2 D.int D.int)) (eT2 D.int D.int) D.int D.str) z7), .un, .un, .un]) (s := bd (z3.1, ((1 : Int), (2 : Int)), (0 : Int), ("" : Str)) (fun (v_line_here_6 : ((List (Int × Int)) × (Int × Int) × Int × Str)) => v_line_here_6)) (sqB (ctx := fun (v_line_here_6 : ((List (Int × Int)) × (Int × Int) × Int × Str)) => [.io (Std.eStm z4.1), .fz ((eT3 (eL (eT4 (eL (eT2 D.int D.int)) (eT2 D.int D.int) D.int D.str)) (eL (eT3 D.int (eT2 D.int D.int) (eL (eT2 D.int (eT2 D.int D.int))))) (eT2 D.str (eL Raw.ePE))) v_handed), .fz (D.str v_kind), zI z2.2, .un, .un, .fz ((eL (eT4 (eL (eT2 D.int D.int)) (eT2 D.int D.int) D.int D.str)) z1.1), .fz ((eL (eT3 D.int (eT2 D.int D.int) (eL (eT2 D.int (eT2 D.int D.int))))) z1.2.1), .fz ((eT2 D.str (eL Raw.ePE)) z1.2.2), .fz ((eL (eT2 D.int D.int)) z3.1), .fz ((eT2 D.int D.int) z3.2.1), zI z3.2.2.1, .fz (D.str z3.2.2.2), .fz ((eT4 (eL (eT2 D.int D.int)) (eT2 D.int D.int) D.int D.str) v_line_here_6), .un, .un, .un]) (S := fun _ => True) (sSet (mof (mtup (a1 (vf 9 rfl) (a1 (mtup (a1 rfl (a1 rfl a0))) (a1 rfl (a1 rfl a0)))))) rfl) trivial (fun v_line_here_6 _ => rfl))) (fun _ => jnE (ctx := fun (z7 : (((List (Int × Int)) × (Int × Int) × Int × Str))) => [.io (Std.eStm z4.1), .fz ((eT3 (eL (eT4 (eL (eT2 D.int D.int)) (eT2 D.int D.int) D.int D.str)) (eL (eT3 D.int (eT2 D.int D.int) (eL (eT2 D.int (eT2 D.int D.int))))) (eT2 D.str (eL Raw.ePE))) v_handed), .fz (D.str v_kind), zI z2.2, .un, .un, .fz ((eL (eT4 (eL (eT2 D.int D.int)) (eT2 D.int D.int) D.int D.str)) z1.1), .fz ((eL (eT3 D.int (eT2 D.int D.int) (eL (eT2 D.int (eT2 D.int D.int))))) z1.2.1), .fz ((eT2 D.str (eL Raw.ePE)) z1.2.2), .fz ((eL (eT2 D.int D.int)) z3.1), .fz ((eT2 D.int D.int) z3.2.1), zI z3.2.2.1, .fz (D.str z3.2.2.2), .fz ((eT4 (eL (eT2 D.int D.int)) (eT2 D.int D.int) D.int D.str) z7), .un, .un, .un]) (s := z4.2) rfl)) h (fun z8 h => sqRet (mof (mtup (a1 (b2 (b2 (mfz (slL (F := (eT4 (eL (eT2 D.int D.int)) (eT2 D.int D.int) D.int D.str)) (vf 6 rfl) pt0 (pt1 (vf 3 rfl)))) (mfz (mlst (a1 (vf 13 rfl) a0))) (o_addL (F := (eT4 (eL (eT2 D.int D.int)) (eT2 D.int D.int) D.int D.str)) (xs := (cut z1.1 none (some z2.2))) (ys := ([z8] : List ((List (Int × Int)) × (Int × Int) × Int × Str))) h.1)) (mfz (slL (F := (eT4 (eL (eT2 D.int D.int)) (eT2 D.int D.int) D.int D.str)) (vf 6 rfl) (pt1 (b2 (vf 3 rfl) rfl rfl)) pt0)) (o_addL (F := (eT4 (eL (eT2 D.int D.int)) (eT2 D.int D.int) D.int D.str)) (xs := ((cut z1.1 none (some z2.2)) ++ ([z8] : List ((List (Int × Int)) × (Int × Int) × Int × Str)))) (ys := (cut z1.1 (some ((z2.2 + (1 : Int)))) none)) h.2)) (a1 (vf 7 rfl) (a1 (vf 8 rfl) a0))))) (ji_mk rfl rfl))))))) (fun hc => bdh (h.2 hc) (fun h => sq rfl (sqIf (tst (b2 (vf 2 rfl) rfl dEq_s)) (fun hc => bdh (h.1 hc) (fun h => sqRet (mof (mtup (a1 (b2 (vf 6 rfl) (mfz (mlst (a1 (mtup (a1 (vf 9 rfl) (a1 (vf 10 rfl) (a1 rfl (a1 rfl a0))))) a0))) (o_addL (F := (eT4 (eL (eT2 D.int D.int)) (eT2 D.int D.int) D.int D.str)) (xs := z1.1) (ys := ([(z3.1, z3.2.1, (0 : Int), ("" : Str))] : List ((List (Int × Int)) × (Int × Int) × Int × Str))) h.1)) (a1 (b2 (vf 7 rfl) (mfz (mlst (a1 (mtup (a1 (c1 (a1 (vf 6 rfl) a0) (o_lenL (F := (eT4 (eL (eT2 D.int D.int)) (eT2 D.int D.int) D.int D.str)))) (a1 (mtup (a1 rfl (a1 rfl a0))) (a1 (mfz (mlst a0)) a0)))) a0))) (o_addL (F := (eT3 D.int (eT2 D.int D.int) (eL (eT2 D.int (eT2 D.int D.int))))) (xs := z1.2.1) (ys := ([((z1.1.length : Int), ((1 : Int), (1 : Int)), ([] : List (Int × (Int × Int))))] : List (Int × (Int × Int) × (List (Int × (Int × Int)))))) h.2.1)) (a1 (mtup (a1 rfl (a1 (b2 (b2 (vf 8 rfl) rfl rfl) ((Raw.cLP (xs := ([((1 : Int), (2 : Int))] : List (Int × Int))) (mfz (mlst (a1 (mtup (a1 rfl (a1 rfl a0))) a0))))) (o_addL (F := Raw.ePE) (xs := z1.2.2.2) (ys := ((([((1 : Int), (2 : Int))] : List (Int × Int))).map Sum.inl : List Raw.PE)) h.2.2)) a0))) a0))))) (ji_mk rfl rfl))) (fun hc => bdh (h.2 hc) (fun h => sq rfl (sqB (ctx := fun (z9 : (Std.Stm × Int)) => [.io (Std.eStm z9.1), .fz ((eT3 (eL (eT4 (eL (eT2 D.int D.int)) (eT2 D.int D.int) D.int D.str)) (eL (eT3 D.int (eT2 D.int D.int) (eL (eT2 D.int (eT2 D.int D.int))))) (eT2 D.str (eL Raw.ePE))) v_handed), .fz (D.str v_kind), zI z2.2, zI z9.2, .un, .fz ((eL (eT4 (eL (eT2 D.int D.int)) (eT2 D.int D.int) D.int D.str)) z1.1), .fz ((eL (eT3 D.int (eT2 D.int D.int) (eL (eT2 D.int (eT2 D.int D.int))))) z1.2.1), .fz ((eT2 D.str (eL Raw.ePE)) z1.2.2), .fz ((eL (eT2 D.int D.int)) z3.1), .fz ((eT2 D.int D.int) z3.2.1), zI z3.2.2.1, .fz (D.str z3.2.2.2), .un, .un, .un, .un]) (sSet (cN (x1s (i := 0) rfl rfl (x1 rfl x0)) rfl rfl (Std.e__law_take (s := z2.1) (most := (3 : Int)) (show 0 < ((3 : Int)) by decide) :) rfl) rfl) h (fun z9 h => sqIf (tst (b2 (vf 4 rfl) rfl dEq_i)) (fun hc => bdh (h.1 hc) (fun h => sqRet (mof (mtup (a1 (vf 6 rfl) (a1 (b2 (mfz (mlst (a1 (mtup (a1 (b2 (b2 (vf 7 rfl) rfl (o_ixL (F := (eT3 D.int (eT2 D.int D.int) (eL (eT2 D.int (eT2 D.int D.int))))) (xs := z1.2.1) h.1)) rfl rfl) (a1 (b2 (b2 (vf 7 rfl) rfl (o_ixL (F := (eT3 D.int (eT2 D.int D.int) (eL (eT2 D.int (eT2 D.int D.int))))) (xs := z1.2.1) h.2.1)) rfl rfl) (a1 (mfz (mlst (a1 (mtup (a1 rfl (a1 (mtup (a1 rfl (a1 rfl a0))) a0))) a0))) a0)))) a0))) (mfz (slL (F := (eT3 D.int (eT2 D.int D.int) (eL (eT2 D.int (eT2 D.int D.int))))) (vf 7 rfl) (pt1 rfl) pt0)) (o_addL (F := (eT3 D.int (eT2 D.int D.int) (eL (eT2 D.int (eT2 D.int D.int))))) (xs := ([((ix z1.2.1 ((0 : Int))).1, (ix z1.2.1 ((0 : Int))).2.1, ([((0 : Int), ((1 : Int), (2 : Int)))] : List (Int × (Int × Int))))] : List (Int × (Int × Int) × (List (Int × (Int × Int)))))) (ys := (cut z1.2.1 (some ((1 : Int))) none)) h.2.2)) (a1 (vf 8 rfl) a0))))) (ji_mk rfl rfl))) (fun hc => bdh (h.2 hc) (fun h => sq rfl (sqIf (tst (b2 (vf 4 rfl) rfl dEq_i)) (fun hc => bdh (h.1 hc) (fun h => sqRet (mof (mtup (a1 (b2 (b2 (mfz (slL (F := (eT4 (eL (eT2 D.int D.int)) (eT2 D.int D.int) D.int D.str)) (vf 6 rfl) pt0 (pt1 (vf 3 rfl)))) (mfz (mlst (a1 (mtup (a1 (vf 9 rfl) (a1 (vf 10 rfl) (a1 rfl (a1 rfl a0))))) a0))) (o_addL (F := (eT4 (eL (eT2 D.int D.int)) (eT2 D.int D.int) D.int D.str)) (xs := (cut z1.1 none (some z2.2))) (ys := ([(z3.1, z3.2.1, (9 : Int), ("lose" : Str))] : List ((List (Int × Int)) × (Int × Int) × Int × Str))) h.1)) (mfz (slL (F := (eT4 (eL (eT2 D.int D.int)) (eT2 D.int D.int) D.int D.str)) (vf 6 rfl) (pt1 (b2 (vf 3 rfl) rfl rfl)) pt0)) (o_addL (F := (eT4 (eL (eT2 D.int D.int)) (eT2 D.int D.int) D.int D.str)) (xs := ((cut z1.1 none (some z2.2)) ++ ([(z3.1, z3.2.1, (9 : Int), ("lose" : Str))] : List ((List (Int × Int)) × (Int × Int) × Int × Str)))) (ys := (cut z1.1 (some ((z2.2 + (1 : Int)))) none)) h.2)) (a1 (vf 7 rfl) (a1 (vf 8 rfl) a0))))) (ji_mk rfl rfl))) (fun hc => bdh (h.2 hc) (fun h => sq rfl (sqB (ctx := fun (v_begins_16 : (List Int)) => [.io (Std.eStm z9.1), .fz ((eT3 (eL (eT4 (eL (eT2 D.int D.int)) (eT2 D.int D.int) D.int D.str)) (eL (eT3 D.int (eT2 D.int D.int) (eL (eT2 D.int (eT2 D.int D.int))))) (eT2 D.str (eL Raw.ePE))) v_handed), .fz (D.str v_kind), zI z2.2, zI z9.2, .ow ((eL D.int) v_begins_16), .fz ((eL (eT4 (eL (eT2 D.int D.int)) (eT2 D.int D.int) D.int D.str)) z1.1), .fz ((eL (eT3 D.int (eT2 D.int D.int) (eL (eT2 D.int (eT2 D.int D.int))))) z1.2.1), .fz ((eT2 D.str (eL Raw.ePE)) z1.2.2), .fz ((eL (eT2 D.int D.int)) z3.1), .fz ((eT2 D.int D.int) z3.2.1), zI z3.2.2.1, .fz (D.str z3.2.2.2), .un, .un, .un, .un]) (sSetO (lcM (F := D.int) (G := D.int) (φ := fun (xv10 : Int) => ((((((z1.2.2.2.zip z1.2.1).filter (fun (xv11 : (Raw.PE × (Int × (Int × Int) × (List (Int × (Int × Int)))))) => (decide (xv11.2.1 = xv10)))).map (fun (xv11 : (Raw.PE × (Int × (Int × Int) × (List (Int × (Int × Int)))))) => xv11.1))).map Raw.peI)).sum) (ρ1 := [.io (Std.eStm z9.1), .fz ((eT3 (eL (eT4 (eL (eT2 D.int D.int)) (eT2 D.int D.int) D.int D.str)) (eL (eT3 D.int (eT2 D.int D.int) (eL (eT2 D.int (eT2 D.int D.int))))) (eT2 D.str (eL Raw.ePE))) v_handed), .fz (D.str v_kind), zI z2.2, zI z9.2, .un, .fz ((eL (eT4 (eL (eT2 D.int D.int)) (eT2 D.int D.int) D.int D.str)) z1.1), .fz ((eL (eT3 D.int (eT2 D.int D.int) (eL (eT2 D.int (eT2 D.int D.int))))) z1.2.1), .fz ((eT2 D.str (eL Raw.ePE)) z1.2.2), .fz ((eL (eT2 D.int D.int)) z3.1), .fz ((eT2 D.int D.int) z3.2.1), zI z3.2.2.1, .fz (D.str z3.2.2.2), .un, .un, .un, .un]) (i_r1 (a1 (c1 (a1 (vf 6 rfl) a0) (o_lenL (F := (eT4 (eL (eT2 D.int D.int)) (eT2 D.int D.int) D.int D.str)))) a0) h.1) rfl (fun xv10 hx14 => ⟨_, rfl, rfl, _, c1 (a1 ((Raw.cPEL (xs := (((z1.2.2.2.zip z1.2.1).filter (fun (xv11 : (Raw.PE × (Int × (Int × Int) × (List (Int × (Int × Int)))))) => (decide (xv11.2.1 = xv10)))).map (fun (xv11 : (Raw.PE × (Int × (Int × Int) × (List (Int × (Int × Int)))))) => xv11.1))) (mfz (lcP (F := (eT2 Raw.ePE (eT3 D.int (eT2 D.int D.int) (eL (eT2 D.int (eT2 D.int D.int)))))) (G := Raw.ePE) (p := fun (xv11 : (Raw.PE × (Int × (Int × Int) × (List (Int × (Int × Int)))))) => (decide (xv11.2.1 = xv10))) (φ := fun (xv11 : (Raw.PE × (Int × (Int × Int) × (List (Int × (Int × Int)))))) => xv11.1) (ρ1 := [.io (Std.eStm z9.1), .fz ((eT3 (eL (eT4 (eL (eT2 D.int D.int)) (eT2 D.int D.int) D.int D.str)) (eL (eT3 D.int (eT2 D.int D.int) (eL (eT2 D.int (eT2 D.int D.int))))) (eT2 D.str (eL Raw.ePE))) v_handed), .fz (D.str v_kind), zI z2.2, zI z9.2, .un, .fz ((eL (eT4 (eL (eT2 D.int D.int)) (eT2 D.int D.int) D.int D.str)) z1.1), .fz ((eL (eT3 D.int (eT2 D.int D.int) (eL (eT2 D.int (eT2 D.int D.int))))) z1.2.1), .fz ((eT2 D.str (eL Raw.ePE)) z1.2.2), .fz ((eL (eT2 D.int D.int)) z3.1), .fz ((eT2 D.int D.int) z3.2.1), zI z3.2.2.1, .fz (D.str z3.2.2.2), .un, zI xv10, .un, .un]) (i_zip (F := Raw.ePE) (G := (eT3 D.int (eT2 D.int D.int) (eL (eT2 D.int (eT2 D.int D.int))))) (a1 (b2 (vf 8 rfl) rfl rfl) (a1 (vf 7 rfl) a0))) rfl (fun xv11 hx12 => ⟨_, rfl, tst (b2 (b2 (vf 15 rfl) rfl rfl) (vf 14 rfl) dEq_i), rfl, fun hc13 => ⟨_, vf 16 rfl, rfl⟩⟩) (h.2.1 xv10 hx14).1 rfl)) (h.2.1 xv10 hx14).2)) a0) o_sum, rfl⟩) h.2.2.1 rfl) rfl) h.2.2.2 (fun v_begins_16 h => sqB (ctx := fun (v_at_17 : Int) => [.io (Std.eStm z9.1), .fz ((eT3 (eL (eT4 (eL (eT2 D.int D.int)) (eT2 D.int D.int) D.int D.str)) (eL (eT3 D.int (eT2 D.int D.int) (eL (eT2 D.int (eT2 D.int D.int))))) (eT2 D.str (eL Raw.ePE))) v_handed), .fz (D.str v_kind), zI v_at_17, zI z9.2, .ow ((eL D.int) v_begins_16), .fz ((eL (eT4 (eL (eT2 D.int D.int)) (eT2 D.int D.int) D.int D.str)) z1.1), .fz ((eL (eT3 D.int (eT2 D.int D.int) (eL (eT2 D.int (eT2 D.int D.int))))) z1.2.1), .fz ((eT2 D.str (eL Raw.ePE)) z1.2.2), .fz ((eL (eT2 D.int D.int)) z3.1), .fz ((eT2 D.int D.int) z3.2.1), zI z3.2.2.1, .fz (D.str z3.2.2.2), .un, .un, .un, .un]) (sSet (mof (t_th (i := 5) rfl rfl (t_idx (i := 5) (ns := v_begins_16) (chk_fz rfl) rfl (c1 (a1 (vf 5 rfl) a0) (o_maxL h.1)) rfl h.2.1) (⟨(by first | rfl | simp [thG, iNoL, Std.eStm, D.noL, D.noLs]), (.inl rfl), (.inl rfl), (.inl rfl), (.inl rfl), trivial, (.inl rfl), (.inl rfl), (.inl rfl), (.inl rfl), (.inl rfl), (.inl rfl), (.inl rfl), trivial, trivial, trivial, trivial, trivial⟩) rfl rfl)) rfl) h.2.2 (fun v_at_17 h => sqB (ctx := fun (z29 : ((List Int) × (Str × (List Raw.PE)))) => [.io (Std.eStm z9.1), .fz ((eT3 (eL (eT4 (eL (eT2 D.int D.int)) (eT2 D.int D.int) D.int D.str)) (eL (eT3 D.int (eT2 D.int D.int) (eL (eT2 D.int (eT2 D.int D.int))))) (eT2 D.str (eL Raw.ePE))) v_handed), .fz (D.str v_kind), zI v_at_17, zI z9.2, .ow ((eL D.int) z29.1), .fz ((eL (eT4 (eL (eT2 D.int D.int)) (eT2 D.int D.int) D.int D.str)) z1.1), .fz ((eL (eT3 D.int (eT2 D.int D.int) (eL (eT2 D.int (eT2 D.int D.int))))) z1.2.1), .fz ((eT2 D.str (eL Raw.ePE)) z29.2), .fz ((eL (eT2 D.int D.int)) z3.1), .fz ((eT2 D.int D.int) z3.2.1), zI z3.2.2.1, .fz (D.str z3.2.2.2), .un, .un, .un, .un]) (ifJ (ctx := fun (z28 : ((List Int) × (Str × (List Raw.PE)))) => [.io (Std.eStm z9.1), .fz ((eT3 (eL (eT4 (eL (eT2 D.int D.int)) (eT2 D.int D.int) D.int D.str)) (eL (eT3 D.int (eT2 D.int D.int) (eL (eT2 D.int (eT2 D.int D.int))))) (eT2 D.str (eL Raw.ePE))) v_handed), .fz (D.str v_kind), zI v_at_17, zI z9.2, .ow ((eL D.int) z28.1), .fz ((eL (eT4 (eL (eT2 D.int D.int)) (eT2 D.int D.int) D.int D.str)) z1.1), .fz ((eL (eT3 D.int (eT2 D.int D.int) (eL (eT2 D.int (eT2 D.int D.int))))) z1.2.1), .fz ((eT2 D.str (eL Raw.ePE)) z28.2), .fz ((eL (eT2 D.int D.int)) z3.1), .fz ((eT2 D.int D.int) z3.2.1), zI z3.2.2.1, .fz (D.str z3.2.2.2), .un, .un, .un, .un]) (v := bd (("shut" : Str), (((z1.2.2.2.map (fun (xv23 : Raw.PE) => ((2 : Int) * (Raw.peI xv23))))).map Sum.inr : List Raw.PE)) (fun (v_comers_26 : (Str × (List Raw.PE))) => bd (setI v_begins_16 v_at_17 ((2 : Int))) (fun (v_begins_27 : (List Int)) => (v_begins_27, v_comers_26)))) (w := (v_begins_16, z1.2.2)) (tst (b2 (pk (i := 5) (F := D.int) (xs := v_begins_16) rfl (vf 3 rfl) rfl h.1) rfl dEq_i)) (fun hc => (bdh (h.2.1 hc) (fun h => jnE (ctx := fun (z28 : ((List Int) × (Str × (List Raw.PE)))) => [.io (Std.eStm z9.1), .fz ((eT3 (eL (eT4 (eL (eT2 D.int D.int)) (eT2 D.int D.int) D.int D.str)) (eL (eT3 D.int (eT2 D.int D.int) (eL (eT2 D.int (eT2 D.int D.int))))) (eT2 D.str (eL Raw.ePE))) v_handed), .fz (D.str v_kind), zI v_at_17, zI z9.2, .ow ((eL D.int) z28.1), .fz ((eL (eT4 (eL (eT2 D.int D.int)) (eT2 D.int D.int) D.int D.str)) z1.1), .fz ((eL (eT3 D.int (eT2 D.int D.int) (eL (eT2 D.int (eT2 D.int D.int))))) z1.2.1), .fz ((eT2 D.str (eL Raw.ePE)) z28.2), .fz ((eL (eT2 D.int D.int)) z3.1), .fz ((eT2 D.int D.int) z3.2.1), zI z3.2.2.1, .fz (D.str z3.2.2.2), .un, .un, .un, .un]) (s := bd (("shut" : Str), (((z1.2.2.2.map (fun (xv23 : Raw.PE) => ((2 : Int) * (Raw.peI xv23))))).map Sum.inr : List Raw.PE)) (fun (v_comers_26 : (Str × (List Raw.PE))) => bd (setI v_begins_16 v_at_17 ((2 : Int))) (fun (v_begins_27 : (List Int)) => (v_begins_27, v_comers_26)))) (sqB (ctx := fun (v_comers_26 : (Str × (List Raw.PE))) => [.io (Std.eStm z9.1), .fz ((eT3 (eL (eT4 (eL (eT2 D.int D.int)) (eT2 D.int D.int) D.int D.str)) (eL (eT3 D.int (eT2 D.int D.int) (eL (eT2 D.int (eT2 D.int D.int))))) (eT2 D.str (eL Raw.ePE))) v_handed), .fz (D.str v_kind), zI v_at_17, zI z9.2, .ow ((eL D.int) v_begins_16), .fz ((eL (eT4 (eL (eT2 D.int D.int)) (eT2 D.int D.int) D.int D.str)) z1.1), .fz ((eL (eT3 D.int (eT2 D.int D.int) (eL (eT2 D.int (eT2 D.int D.int))))) z1.2.1), .fz ((eT2 D.str (eL Raw.ePE)) v_comers_26), .fz ((eL (eT2 D.int D.int)) z3.1), .fz ((eT2 D.int D.int) z3.2.1), zI z3.2.2.1, .fz (D.str z3.2.2.2), .un, .un, .un, .un]) (sSet (mof (mtup (a1 rfl (a1 ((Raw.cLI (xs := (z1.2.2.2.map (fun (xv23 : Raw.PE) => ((2 : Int) * (Raw.peI xv23))))) (mfz (lcM (F := Raw.ePE) (G := D.int) (φ := fun (xv23 : Raw.PE) => ((2 : Int) * (Raw.peI xv23))) (ρ1 := [.io (Std.eStm z9.1), .fz ((eT3 (eL (eT4 (eL (eT2 D.int D.int)) (eT2 D.int D.int) D.int D.str)) (eL (eT3 D.int (eT2 D.int D.int) (eL (eT2 D.int (eT2 D.int D.int))))) (eT2 D.str (eL Raw.ePE))) v_handed), .fz (D.str v_kind), zI v_at_17, zI z9.2, .ow ((eL D.int) v_begins_16), .fz ((eL (eT4 (eL (eT2 D.int D.int)) (eT2 D.int D.int) D.int D.str)) z1.1), .fz ((eL (eT3 D.int (eT2 D.int D.int) (eL (eT2 D.int (eT2 D.int D.int))))) z1.2.1), .fz ((eT2 D.str (eL Raw.ePE)) z1.2.2), .fz ((eL (eT2 D.int D.int)) z3.1), .fz ((eT2 D.int D.int) z3.2.1), zI z3.2.2.1, .fz (D.str z3.2.2.2), .un, .un, .un, .un]) (i_L (F := Raw.ePE) (b2 (vf 8 rfl) rfl rfl)) rfl (fun xv23 hx24 => ⟨_, rfl, rfl, _, b2 rfl ((Raw.cPEI (vf 15 rfl) (h.1 xv23 hx24).1)) (o_mul (h.1 xv23 hx24).2), rfl⟩) h.2.1 rfl)))) a0)))) rfl) h.2.2 (fun v_comers_26 h => sqB (ctx := fun (v_begins_27 : (List Int)) => [.io (Std.eStm z9.1), .fz ((eT3 (eL (eT4 (eL (eT2 D.int D.int)) (eT2 D.int D.int) D.int D.str)) (eL (eT3 D.int (eT2 D.int D.int) (eL (eT2 D.int (eT2 D.int D.int))))) (eT2 D.str (eL Raw.ePE))) v_handed), .fz (D.str v_kind), zI v_at_17, zI z9.2, .ow ((eL D.int) v_begins_27), .fz ((eL (eT4 (eL (eT2 D.int D.int)) (eT2 D.int D.int) D.int D.str)) z1.1), .fz ((eL (eT3 D.int (eT2 D.int D.int) (eL (eT2 D.int (eT2 D.int D.int))))) z1.2.1), .fz ((eT2 D.str (eL Raw.ePE)) v_comers_26), .fz ((eL (eT2 D.int D.int)) z3.1), .fz ((eT2 D.int D.int) z3.2.1), zI z3.2.2.1, .fz (D.str z3.2.2.2), .un, .un, .un, .un]) (S := fun _ => True) (sPutO (i := 5) (F := D.int) (xs := v_begins_16) (v := (2 : Int)) rfl (vf 3 rfl) rfl rfl h rfl) trivial (fun v_begins_27 _ => rfl)))))) (fun _ => jnE (ctx := fun (z28 : ((List Int) × (Str × (List Raw.PE)))) => [.io (Std.eStm z9.1), .fz ((eT3 (eL (eT4 (eL (eT2 D.int D.int)) (eT2 D.int D.int) D.int D.str)) (eL (eT3 D.int (eT2 D.int D.int) (eL (eT2 D.int (eT2 D.int D.int))))) (eT2 D.str (eL Raw.ePE))) v_handed), .fz (D.str v_kind), zI v_at_17, zI z9.2, .ow ((eL D.int) z28.1), .fz ((eL (eT4 (eL (eT2 D.int D.int)) (eT2 D.int D.int) D.int D.str)) z1.1), .fz ((eL (eT3 D.int (eT2 D.int D.int) (eL (eT2 D.int (eT2 D.int D.int))))) z1.2.1), .fz ((eT2 D.str (eL Raw.ePE)) z28.2), .fz ((eL (eT2 D.int D.int)) z3.1), .fz ((eT2 D.int D.int) z3.2.1), zI z3.2.2.1, .fz (D.str z3.2.2.2), .un, .un, .un, .un]) (s := (v_begins_16, z1.2.2)) rfl)) h.2.2 (fun z29 h => sRet (mof (mtup (a1 (b2 (b2 (mfz (slL (F := (eT4 (eL (eT2 D.int D.int)) (eT2 D.int D.int) D.int D.str)) (vf 6 rfl) pt0 (pt1 (vf 3 rfl)))) (mfz (mlst (a1 (mtup (a1 (b2 (b2 (vf 6 rfl) (vf 3 rfl) (o_ixL (F := (eT4 (eL (eT2 D.int D.int)) (eT2 D.int D.int) D.int D.str)) (xs := z1.1) h.1)) rfl rfl) (a1 (vf 10 rfl) (a1 (b2 (pk (i := 5) (F := D.int) (xs := z29.1) rfl (vf 3 rfl) rfl h.2.1) rfl rfl) (a1 rfl a0))))) a0))) (o_addL (F := (eT4 (eL (eT2 D.int D.int)) (eT2 D.int D.int) D.int D.str)) (xs := (cut z1.1 none (some v_at_17))) (ys := ([((ix z1.1 v_at_17).1, z3.2.1, ((ix z29.1 v_at_17) - (1 : Int)), ("stay" : Str))] : List ((List (Int × Int)) × (Int × Int) × Int × Str))) h.2.2.1)) (mfz (slL (F := (eT4 (eL (eT2 D.int D.int)) (eT2 D.int D.int) D.int D.str)) (vf 6 rfl) (pt1 (b2 (vf 3 rfl) rfl rfl)) pt0)) (o_addL (F := (eT4 (eL (eT2 D.int D.int)) (eT2 D.int D.int) D.int D.str)) (xs := ((cut z1.1 none (some v_at_17)) ++ ([((ix z1.1 v_at_17).1, z3.2.1, ((ix z29.1 v_at_17) - (1 : Int)), ("stay" : Str))] : List ((List (Int × Int)) × (Int × Int) × Int × Str)))) (ys := (cut z1.1 (some ((v_at_17 + (1 : Int)))) none)) h.2.2.2)) (a1 (vf 7 rfl) (a1 (vf 8 rfl) a0))))) (ji_mk rfl rfl))))))))))))))))))))
noncomputable def fb__law_of_whole : M Fl :=
  mSeq (mAsg (gT 3 (gsC (gN 4) (gsC (gN 5) (gsC (gN 6) gsN)))) (mVar 1))
    (mSeq (mSet 2 (mCallN 2 (some 0) Std.fn__law_take (xS 0 (xV (M.pure (.int 5)) xNil))))
    (mSeq (mSet 3 (mLst (mCons (mTup (mCons (M.pure (.int 0)) (mCons (mTup (mCons (M.pure (.int 1)) (mCons (M.pure (.int 1)) mNil))) (mCons (mFz (mLst (mCons (mTup (mCons (M.pure (.int 0)) (mCons (mTup (mCons (M.pure (.int 1)) (mCons (M.pure (.int 1)) mNil))) mNil))) mNil))) mNil)))) mNil)))
    (mSeq (mIf (mTest (mBin dEq (mVar 2) (M.pure (.int 0)))) (mRet (mOf (mTup (mCons (mFz (mLst mNil)) (mCons (mVar 5) (mCons (mVar 6) mNil)))))) mNx)
    (mSeq (mIf (mTest (mBin dEq (mVar 2) (M.pure (.int 4)))) (mRet (mOf (mTup (mCons (mVar 4) (mCons (mFz (mLst mNil)) (mCons (mTup (mCons (mBin dIx (mVar 6) (M.pure (.int 0))) (mCons (mFz (mLst mNil)) mNil))) mNil)))))) mNx)
    (mSeq (mIf (mTest (mBin dEq (mVar 2) (M.pure (.int 1)))) (mSeq (mSet 7 (mOf (mBin dSub (M.pure (.int 9)) (mCall dLen (mCons (mVar 4) mNil)))))
    (mSeq (mSet 8 (mOf (mBin dAdd (mVar 5) (mFz (mLc [9] (mRange1 (mCons (mVar 7) mNil)) (gN 9) (M.pure true) (mTup (mCons (mBin dAdd (mCall dLen (mCons (mVar 4) mNil)) (mVar 9)) (mCons (mTup (mCons (M.pure (.int 1)) (mCons (M.pure (.int 1)) mNil))) (mCons (mFz (mLst (mCons (mTup (mCons (M.pure (.int 0)) (mCons (mTup (mCons (M.pure (.int 1)) (mCons (M.pure (.int 1)) mNil))) mNil))) mNil))) mNil)))))))))
    (mRet (mOf (mTup (mCons (mBin dAdd (mVar 4) (mBin dMul (mFz (mLst (mCons (mBin dIx (mVar 4) (M.pure (.int 0))) mNil))) (mVar 7))) (mCons (mVar 8) (mCons (mTup (mCons (mBin dIx (mVar 6) (M.pure (.int 0))) (mCons (mBin dAdd (mBin dIx (mVar 6) (M.pure (.int 1))) (mBin dMul (mFz (mLst (mCons (mBin dIx (mBin dIx (mVar 6) (M.pure (.int 1))) (M.pure (.int 0))) mNil))) (mVar 7))) mNil))) mNil)))))))) mNx)
    (mSeq (mFrz 3)
    (mSeq (mIf (mTest (mBin dEq (mVar 2) (M.pure (.int 2)))) (mRet (mOf (mTup (mCons (mVar 4) (mCons (mBin dAdd (mVar 5) (mBin dMul (mVar 3) (mBin dSub (M.pure (.int 13)) (mCall dLen (mCons (mVar 5) mNil))))) (mCons (mTup (mCons (mBin dIx (mVar 6) (M.pure (.int 0))) (mCons (mBin dAdd (mBin dIx (mVar 6) (M.pure (.int 1))) (mBin dMul (mFz (mLst (mCons (mBin dIx (mBin dIx (mVar 6) (M.pure (.int 1))) (M.pure (.int 0))) mNil))) (mBin dSub (M.pure (.int 13)) (mCall dLen (mCons (mVar 5) mNil))))) mNil))) mNil)))))) mNx)
    (mRet (mOf (mTup (mCons (mBin dAdd (mVar 4) (mFz (mLst (mCons (mBin dIx (mVar 4) (M.pure (.int 0))) mNil)))) (mCons (mVar 5) (mCons (mVar 6) mNil)))))))))))))
noncomputable def fn__law_of_whole : List D → Rf := runF (some 0) 10 fb__law_of_whole
noncomputable def t__law_of_whole (v_stream_here : Std.Stm) (v_handed : ((List ((List (Int × Int)) × (Int × Int) × Int × Str)) × (List (Int × (Int × Int) × (List (Int × (Int × Int))))) × (Str × (List Raw.PE)))) : (((List ((List (Int × Int)) × (Int × Int) × Int × Str)) × (List (Int × (Int × Int) × (List (Int × (Int × Int))))) × (Str × (List Raw.PE))) × Std.Stm) :=
  bd v_handed (fun (z1 : ((List ((List (Int × Int)) × (Int × Int) × Int × Str)) × (List (Int × (Int × Int) × (List (Int × (Int × Int))))) × (Str × (List Raw.PE)))) => bd ((Std.t__law_take v_stream_here ((5 : Int))).2, (Std.t__law_take v_stream_here ((5 : Int))).1) (fun (z2 : (Std.Stm × Int)) => bd ([((0 : Int), ((1 : Int), (1 : Int)), ([((0 : Int), ((1 : Int), (1 : Int)))] : List (Int × (Int × Int))))] : List (Int × (Int × Int) × (List (Int × (Int × Int))))) (fun (v_fill_3 : (List (Int × (Int × Int) × (List (Int × (Int × Int)))))) => cond (decide (z2.2 = (0 : Int))) ((([] : List ((List (Int × Int)) × (Int × Int) × Int × Str)), z1.2.1, z1.2.2), z2.1) (cond (decide (z2.2 = (4 : Int))) ((z1.1, ([] : List (Int × (Int × Int) × (List (Int × (Int × Int))))), (z1.2.2.1, ((([] : List Int)).map Sum.inr : List Raw.PE))), z2.1) (cond (decide (z2.2 = (1 : Int))) (bd ((9 : Int) - (z1.1.length : Int)) (fun (v_more_4 : Int) => bd (z1.2.1 ++ ((rangeI 0 v_more_4).map (fun (xv5 : Int) => (((z1.1.length : Int) + xv5), ((1 : Int), (1 : Int)), ([((0 : Int), ((1 : Int), (1 : Int)))] : List (Int × (Int × Int))))))) (fun (v_wider_8 : (List (Int × (Int × Int) × (List (Int × (Int × Int)))))) => (((z1.1 ++ (repI (([(ix z1.1 ((0 : Int)))] : List ((List (Int × Int)) × (Int × Int) × Int × Str))) v_more_4)), v_wider_8, (z1.2.2.1, (z1.2.2.2 ++ (repI (([(ix z1.2.2.2 ((0 : Int)))] : List Raw.PE)) v_more_4)))), z2.1)))) (cond (decide (z2.2 = (2 : Int))) ((z1.1, (z1.2.1 ++ (repI v_fill_3 (((13 : Int) - (z1.2.1.length : Int))))), (z1.2.2.1, (z1.2.2.2 ++ (repI (([(ix z1.2.2.2 ((0 : Int)))] : List Raw.PE)) (((13 : Int) - (z1.2.1.length : Int))))))), z2.1) (((z1.1 ++ ([(ix z1.1 ((0 : Int)))] : List ((List (Int × Int)) × (Int × Int) × Int × Str))), z1.2.1, z1.2.2), z2.1)))))))
def s__law_of_whole (v_stream_here : Std.Stm) (v_handed : ((List ((List (Int × Int)) × (Int × Int) × Int × Str)) × (List (Int × (Int × Int) × (List (Int × (Int × Int))))) × (Str × (List Raw.PE)))) : Prop :=
  bd v_handed (fun (z1 : ((List ((List (Int × Int)) × (Int × Int) × Int × Str)) × (List (Int × (Int × Int) × (List (Int × (Int × Int))))) × (Str × (List Raw.PE)))) => bd ((Std.t__law_take v_stream_here ((5 : Int))).2, (Std.t__law_take v_stream_here ((5 : Int))).1) (fun (z2 : (Std.Stm × Int)) => bd ([((0 : Int), ((1 : Int), (1 : Int)), ([((0 : Int), ((1 : Int), (1 : Int)))] : List (Int × (Int × Int))))] : List (Int × (Int × Int) × (List (Int × (Int × Int))))) (fun (v_fill_3 : (List (Int × (Int × Int) × (List (Int × (Int × Int)))))) => ((decide (z2.2 = (0 : Int))) = false → ((decide (z2.2 = (4 : Int))) = false → (((decide (z2.2 = (1 : Int))) = true → bd ((9 : Int) - (z1.1.length : Int)) (fun (v_more_4 : Int) => ((-100000000 < v_more_4 ∧ v_more_4 < 100000000) ∧ (((rangeI 0 v_more_4)).length ≤ 10000) ∧ (z1.2.1.length + (((rangeI 0 v_more_4).map (fun (xv5 : Int) => (((z1.1.length : Int) + xv5), ((1 : Int), (1 : Int)), ([((0 : Int), ((1 : Int), (1 : Int)))] : List (Int × (Int × Int))))))).length ≤ 10000) ∧ (bd (z1.2.1 ++ ((rangeI 0 v_more_4).map (fun (xv5 : Int) => (((z1.1.length : Int) + xv5), ((1 : Int), (1 : Int)), ([((0 : Int), ((1 : Int), (1 : Int)))] : List (Int × (Int × Int))))))) (fun (v_wider_8 : (List (Int × (Int × Int) × (List (Int × (Int × Int)))))) => ((InB z1.1.length ((0 : Int))) ∧ (v_more_4 < 10000 ∧ -10000 < v_more_4 ∧ (([(ix z1.1 ((0 : Int)))] : List ((List (Int × Int)) × (Int × Int) × Int × Str))).length ≤ 1000) ∧ (z1.1.length + ((repI (([(ix z1.1 ((0 : Int)))] : List ((List (Int × Int)) × (Int × Int) × Int × Str))) v_more_4)).length ≤ 10000) ∧ (InB z1.2.2.2.length ((0 : Int))) ∧ (v_more_4 < 10000 ∧ -10000 < v_more_4 ∧ (([(ix z1.2.2.2 ((0 : Int)))] : List Raw.PE)).length ≤ 1000) ∧ (z1.2.2.2.length + ((repI (([(ix z1.2.2.2 ((0 : Int)))] : List Raw.PE)) v_more_4)).length ≤ 10000))))))) ∧ ((decide (z2.2 = (1 : Int))) = false → (((decide (z2.2 = (2 : Int))) = true → (((((13 : Int) - (z1.2.1.length : Int))) < 10000 ∧ -10000 < (((13 : Int) - (z1.2.1.length : Int))) ∧ v_fill_3.length ≤ 1000) ∧ (z1.2.1.length + ((repI v_fill_3 (((13 : Int) - (z1.2.1.length : Int))))).length ≤ 10000) ∧ (InB z1.2.2.2.length ((0 : Int))) ∧ ((((13 : Int) - (z1.2.1.length : Int))) < 10000 ∧ -10000 < (((13 : Int) - (z1.2.1.length : Int))) ∧ (([(ix z1.2.2.2 ((0 : Int)))] : List Raw.PE)).length ≤ 1000) ∧ (z1.2.2.2.length + ((repI (([(ix z1.2.2.2 ((0 : Int)))] : List Raw.PE)) (((13 : Int) - (z1.2.1.length : Int))))).length ≤ 10000))) ∧ ((decide (z2.2 = (2 : Int))) = false → ((InB z1.1.length ((0 : Int))) ∧ (z1.1.length + (([(ix z1.1 ((0 : Int)))] : List ((List (Int × Int)) × (Int × Int) × Int × Str))).length ≤ 10000)))))))))))
theorem e__law_of_whole {v_stream_here : Std.Stm} {v_handed : ((List ((List (Int × Int)) × (Int × Int) × Int × Str)) × (List (Int × (Int × Int) × (List (Int × (Int × Int))))) × (Str × (List Raw.PE)))} (h : s__law_of_whole v_stream_here v_handed) : fn__law_of_whole [Std.eStm v_stream_here, (eT3 (eL (eT4 (eL (eT2 D.int D.int)) (eT2 D.int D.int) D.int D.str)) (eL (eT3 D.int (eT2 D.int D.int) (eL (eT2 D.int (eT2 D.int D.int))))) (eT2 D.str (eL Raw.ePE))) v_handed] = .ok ((eT3 (eL (eT4 (eL (eT2 D.int D.int)) (eT2 D.int D.int) D.int D.str)) (eL (eT3 D.int (eT2 D.int D.int) (eL (eT2 D.int (eT2 D.int D.int))))) (eT2 D.str (eL Raw.ePE))) (t__law_of_whole v_stream_here v_handed).1) .ff (Std.eStm (t__law_of_whole v_stream_here v_handed).2) := by
  refine runI (F := (eT3 (eL (eT4 (eL (eT2 D.int D.int)) (eT2 D.int D.int) D.int D.str)) (eL (eT3 D.int (eT2 D.int D.int) (eL (eT2 D.int (eT2 D.int D.int))))) (eT2 D.str (eL Raw.ePE)))) (G := Std.eStm) (o := .ff) (fb := fb__law_of_whole) (x := t__law_of_whole v_stream_here v_handed) ?_
  show JI 0 (eT3 (eL (eT4 (eL (eT2 D.int D.int)) (eT2 D.int D.int) D.int D.str)) (eL (eT3 D.int (eT2 D.int D.int) (eL (eT2 D.int (eT2 D.int D.int))))) (eT2 D.str (eL Raw.ePE))) Std.eStm .ff (fb__law_of_whole [.io (Std.eStm v_stream_here), .fz ((eT3 (eL (eT4 (eL (eT2 D.int D.int)) (eT2 D.int D.int) D.int D.str)) (eL (eT3 D.int (eT2 D.int D.int) (eL (eT2 D.int (eT2 D.int D.int))))) (eT2 D.str (eL Raw.ePE))) v_handed), .un, .un, .un, .un, .un, .un, .un, .un]) _
  delta fb__law_of_whole t__law_of_whole
  delta s__law_of_whole at h
  exact sqB (ctx := fun (z1 : ((List ((List (Int × Int)) × (Int × Int) × Int × Str)) × (List (Int × (Int × Int) × (List (Int × (Int × Int))))) × (Str × (List Raw.PE)))) => [.io (Std.eStm v_stream_here), .fz ((eT3 (eL (eT4 (eL (eT2 D.int D.int)) (eT2 D.int D.int) D.int D.str)) (eL (eT3 D.int (eT2 D.int D.int) (eL (eT2 D.int (eT2 D.int D.int))))) (eT2 D.str (eL Raw.ePE))) v_handed), .un, .un, .fz ((eL (eT4 (eL (eT2 D.int D.int)) (eT2 D.int D.int) D.int D.str)) z1.1), .fz ((eL (eT3 D.int (eT2 D.int D.int) (eL (eT2 D.int (eT2 D.int D.int))))) z1.2.1), .fz ((eT2 D.str (eL Raw.ePE)) z1.2.2), .un, .un, .un]) (sAsg (vf 1 rfl) rfl) h (fun z1 h => sqB (ctx := fun (z2 : (Std.Stm × Int)) => [.io (Std.eStm z2.1), .fz ((eT3 (eL (eT4 (eL (eT2 D.int D.int)) (eT2 D.int D.int) D.int D.str)) (eL (eT3 D.int (eT2 D.int D.int) (eL (eT2 D.int (eT2 D.int D.int))))) (eT2 D.str (eL Raw.ePE))) v_handed), zI z2.2, .un, .fz ((eL (eT4 (eL (eT2 D.int D.int)) (eT2 D.int D.int) D.int D.str)) z1.1), .fz ((eL (eT3 D.int (eT2 D.int D.int) (eL (eT2 D.int (eT2 D.int D.int))))) z1.2.1), .fz ((eT2 D.str (eL Raw.ePE)) z1.2.2), .un, .un, .un]) (sSet (cN (x1s (i := 0) rfl rfl (x1 rfl x0)) rfl rfl (Std.e__law_take (s := v_stream_here) (most := (5 : Int)) (show 0 < ((5 : Int)) by decide) :) rfl) rfl) h (fun z2 h => sqB (ctx := fun (v_fill_3 : (List (Int × (Int × Int) × (List (Int × (Int × Int)))))) => [.io (Std.eStm z2.1), .fz ((eT3 (eL (eT4 (eL (eT2 D.int D.int)) (eT2 D.int D.int) D.int D.str)) (eL (eT3 D.int (eT2 D.int D.int) (eL (eT2 D.int (eT2 D.int D.int))))) (eT2 D.str (eL Raw.ePE))) v_handed), zI z2.2, .ow ((eL (eT3 D.int (eT2 D.int D.int) (eL (eT2 D.int (eT2 D.int D.int))))) v_fill_3), .fz ((eL (eT4 (eL (eT2 D.int D.int)) (eT2 D.int D.int) D.int D.str)) z1.1), .fz ((eL (eT3 D.int (eT2 D.int D.int) (eL (eT2 D.int (eT2 D.int D.int))))) z1.2.1), .fz ((eT2 D.str (eL Raw.ePE)) z1.2.2), .un, .un, .un]) (sSetO (mlst (a1 (mtup (a1 rfl (a1 (mtup (a1 rfl (a1 rfl a0))) (a1 (mfz (mlst (a1 (mtup (a1 rfl (a1 (mtup (a1 rfl (a1 rfl a0))) a0))) a0))) a0)))) a0)) rfl) h (fun v_fill_3 h => sqIf (tst (b2 (vf 2 rfl) rfl dEq_i)) (fun _ => sqRet (mof (mtup (a1 (mfz (mlst a0)) (a1 (vf 5 rfl) (a1 (vf 6 rfl) a0))))) (ji_mk rfl rfl)) (fun hc => bdh (h hc) (fun h => sq rfl (sqIf (tst (b2 (vf 2 rfl) rfl dEq_i)) (fun _ => sqRet (mof (mtup (a1 (vf 4 rfl) (a1 (mfz (mlst a0)) (a1 (mtup (a1 (b2 (vf 6 rfl) rfl rfl) (a1 ((Raw.cLI (xs := ([] : List Int)) (mfz (mlst a0)))) a0))) a0))))) (ji_mk rfl rfl)) (fun hc => bdh (h hc) (fun h => sq rfl (sqIf (tst (b2 (vf 2 rfl) rfl dEq_i)) (fun hc => bdh (h.1 hc) (fun h => sAss (sqB (ctx := fun (v_more_4 : Int) => [.io (Std.eStm z2.1), .fz ((eT3 (eL (eT4 (eL (eT2 D.int D.int)) (eT2 D.int D.int) D.int D.str)) (eL (eT3 D.int (eT2 D.int D.int) (eL (eT2 D.int (eT2 D.int D.int))))) (eT2 D.str (eL Raw.ePE))) v_handed), zI z2.2, .ow ((eL (eT3 D.int (eT2 D.int D.int) (eL (eT2 D.int (eT2 D.int D.int))))) v_fill_3), .fz ((eL (eT4 (eL (eT2 D.int D.int)) (eT2 D.int D.int) D.int D.str)) z1.1), .fz ((eL (eT3 D.int (eT2 D.int D.int) (eL (eT2 D.int (eT2 D.int D.int))))) z1.2.1), .fz ((eT2 D.str (eL Raw.ePE)) z1.2.2), zI v_more_4, .un, .un]) (sSet (mof (b2 rfl (c1 (a1 (vf 4 rfl) a0) (o_lenL (F := (eT4 (eL (eT2 D.int D.int)) (eT2 D.int D.int) D.int D.str)))) rfl)) rfl) h (fun v_more_4 h => sAss (sqB (ctx := fun (v_wider_8 : (List (Int × (Int × Int) × (List (Int × (Int × Int)))))) => [.io (Std.eStm z2.1), .fz ((eT3 (eL (eT4 (eL (eT2 D.int D.int)) (eT2 D.int D.int) D.int D.str)) (eL (eT3 D.int (eT2 D.int D.int) (eL (eT2 D.int (eT2 D.int D.int))))) (eT2 D.str (eL Raw.ePE))) v_handed), zI z2.2, .ow ((eL (eT3 D.int (eT2 D.int D.int) (eL (eT2 D.int (eT2 D.int D.int))))) v_fill_3), .fz ((eL (eT4 (eL (eT2 D.int D.int)) (eT2 D.int D.int) D.int D.str)) z1.1), .fz ((eL (eT3 D.int (eT2 D.int D.int) (eL (eT2 D.int (eT2 D.int D.int))))) z1.2.1), .fz ((eT2 D.str (eL Raw.ePE)) z1.2.2), zI v_more_4, .fz ((eL (eT3 D.int (eT2 D.int D.int) (eL (eT2 D.int (eT2 D.int D.int))))) v_wider_8), .un]) (sSet (mof (b2 (vf 5 rfl) (mfz (lcM (F := D.int) (G := (eT3 D.int (eT2 D.int D.int) (eL (eT2 D.int (eT2 D.int D.int))))) (φ := fun (xv5 : Int) => (((z1.1.length : Int) + xv5), ((1 : Int), (1 : Int)), ([((0 : Int), ((1 : Int), (1 : Int)))] : List (Int × (Int × Int))))) (ρ1 := [.io (Std.eStm z2.1), .fz ((eT3 (eL (eT4 (eL (eT2 D.int D.int)) (eT2 D.int D.int) D.int D.str)) (eL (eT3 D.int (eT2 D.int D.int) (eL (eT2 D.int (eT2 D.int D.int))))) (eT2 D.str (eL Raw.ePE))) v_handed), zI z2.2, .ow ((eL (eT3 D.int (eT2 D.int D.int) (eL (eT2 D.int (eT2 D.int D.int))))) v_fill_3), .fz ((eL (eT4 (eL (eT2 D.int D.int)) (eT2 D.int D.int) D.int D.str)) z1.1), .fz ((eL (eT3 D.int (eT2 D.int D.int) (eL (eT2 D.int (eT2 D.int D.int))))) z1.2.1), .fz ((eT2 D.str (eL Raw.ePE)) z1.2.2), zI v_more_4, .un, .un]) (i_r1 (a1 (vf 7 rfl) a0) h.1) rfl (fun xv5 hx6 => ⟨_, rfl, rfl, _, mtup (a1 (b2 (c1 (a1 (vf 4 rfl) a0) (o_lenL (F := (eT4 (eL (eT2 D.int D.int)) (eT2 D.int D.int) D.int D.str)))) (vf 9 rfl) rfl) (a1 (mtup (a1 rfl (a1 rfl a0))) (a1 (mfz (mlst (a1 (mtup (a1 rfl (a1 (mtup (a1 rfl (a1 rfl a0))) a0))) a0))) a0))), rfl⟩) h.2.1 rfl)) (o_addL (F := (eT3 D.int (eT2 D.int D.int) (eL (eT2 D.int (eT2 D.int D.int))))) (xs := z1.2.1) (ys := ((rangeI 0 v_more_4).map (fun (xv5 : Int) => (((z1.1.length : Int) + xv5), ((1 : Int), (1 : Int)), ([((0 : Int), ((1 : Int), (1 : Int)))] : List (Int × (Int × Int))))))) h.2.2.1))) rfl) h.2.2.2 (fun v_wider_8 h => sqRet (mof (mtup (a1 (b2 (vf 4 rfl) (b2 (mfz (mlst (a1 (b2 (vf 4 rfl) rfl (o_ixL (F := (eT4 (eL (eT2 D.int D.int)) (eT2 D.int D.int) D.int D.str)) (xs := z1.1) h.1)) a0))) (vf 7 rfl) (o_mulL (F := (eT4 (eL (eT2 D.int D.int)) (eT2 D.int D.int) D.int D.str)) (xs := ([(ix z1.1 ((0 : Int)))] : List ((List (Int × Int)) × (Int × Int) × Int × Str))) h.2.1)) (o_addL (F := (eT4 (eL (eT2 D.int D.int)) (eT2 D.int D.int) D.int D.str)) (xs := z1.1) (ys := (repI (([(ix z1.1 ((0 : Int)))] : List ((List (Int × Int)) × (Int × Int) × Int × Str))) v_more_4)) h.2.2.1)) (a1 (vf 8 rfl) (a1 (mtup (a1 (b2 (vf 6 rfl) rfl rfl) (a1 (b2 (b2 (vf 6 rfl) rfl rfl) (b2 (mfz (mlst (a1 (b2 (b2 (vf 6 rfl) rfl rfl) rfl (o_ixL (F := Raw.ePE) (xs := z1.2.2.2) h.2.2.2.1)) a0))) (vf 7 rfl) (o_mulL (F := Raw.ePE) (xs := ([(ix z1.2.2.2 ((0 : Int)))] : List Raw.PE)) h.2.2.2.2.1)) (o_addL (F := Raw.ePE) (xs := z1.2.2.2) (ys := (repI (([(ix z1.2.2.2 ((0 : Int)))] : List Raw.PE)) v_more_4)) h.2.2.2.2.2)) a0))) a0))))) (ji_mk rfl rfl))))))) (fun hc => bdh (h.2 hc) (fun h => sq rfl (sq (sFrz (i := 3) rfl (show _ = [.io (Std.eStm z2.1), .fz ((eT3 (eL (eT4 (eL (eT2 D.int D.int)) (eT2 D.int D.int) D.int D.str)) (eL (eT3 D.int (eT2 D.int D.int) (eL (eT2 D.int (eT2 D.int D.int))))) (eT2 D.str (eL Raw.ePE))) v_handed), zI z2.2, .fz ((eL (eT3 D.int (eT2 D.int D.int) (eL (eT2 D.int (eT2 D.int D.int))))) v_fill_3), .fz ((eL (eT4 (eL (eT2 D.int D.int)) (eT2 D.int D.int) D.int D.str)) z1.1), .fz ((eL (eT3 D.int (eT2 D.int D.int) (eL (eT2 D.int (eT2 D.int D.int))))) z1.2.1), .fz ((eT2 D.str (eL Raw.ePE)) z1.2.2), .un, .un, .un] from rfl)) (sqIf (tst (b2 (vf 2 rfl) rfl dEq_i)) (fun hc => bdh (h.1 hc) (fun h => sqRet (mof (mtup (a1 (vf 4 rfl) (a1 (b2 (vf 5 rfl) (b2 (vf 3 rfl) (b2 rfl (c1 (a1 (vf 5 rfl) a0) (o_lenL (F := (eT3 D.int (eT2 D.int D.int) (eL (eT2 D.int (eT2 D.int D.int))))))) rfl) (o_mulL (F := (eT3 D.int (eT2 D.int D.int) (eL (eT2 D.int (eT2 D.int D.int))))) (xs := v_fill_3) h.1)) (o_addL (F := (eT3 D.int (eT2 D.int D.int) (eL (eT2 D.int (eT2 D.int D.int))))) (xs := z1.2.1) (ys := (repI v_fill_3 (((13 : Int) - (z1.2.1.length : Int))))) h.2.1)) (a1 (mtup (a1 (b2 (vf 6 rfl) rfl rfl) (a1 (b2 (b2 (vf 6 rfl) rfl rfl) (b2 (mfz (mlst (a1 (b2 (b2 (vf 6 rfl) rfl rfl) rfl (o_ixL (F := Raw.ePE) (xs := z1.2.2.2) h.2.2.1)) a0))) (b2 rfl (c1 (a1 (vf 5 rfl) a0) (o_lenL (F := (eT3 D.int (eT2 D.int D.int) (eL (eT2 D.int (eT2 D.int D.int))))))) rfl) (o_mulL (F := Raw.ePE) (xs := ([(ix z1.2.2.2 ((0 : Int)))] : List Raw.PE)) h.2.2.2.1)) (o_addL (F := Raw.ePE) (xs := z1.2.2.2) (ys := (repI (([(ix z1.2.2.2 ((0 : Int)))] : List Raw.PE)) (((13 : Int) - (z1.2.1.length : Int))))) h.2.2.2.2)) a0))) a0))))) (ji_mk rfl rfl))) (fun hc => bdh (h.2 hc) (fun h => sq rfl (sRet (mof (mtup (a1 (b2 (vf 4 rfl) (mfz (mlst (a1 (b2 (vf 4 rfl) rfl (o_ixL (F := (eT4 (eL (eT2 D.int D.int)) (eT2 D.int D.int) D.int D.str)) (xs := z1.1) h.1)) a0))) (o_addL (F := (eT4 (eL (eT2 D.int D.int)) (eT2 D.int D.int) D.int D.str)) (xs := z1.1) (ys := ([(ix z1.1 ((0 : Int)))] : List ((List (Int × Int)) × (Int × Int) × Int × Str))) h.2)) (a1 (vf 5 rfl) (a1 (vf 6 rfl) a0))))) (ji_mk rfl rfl)))))))))))))))))
noncomputable def fb__law_broken : M Fl :=
  mSeq (mAsg (gT 3 (gsC (gN 4) (gsC (gN 5) (gsC (gN 6) gsN)))) (mVar 1))
    (mSeq (mSet 3 (mCallN 2 (some 0) Std.fn__law_take (xS 0 (xV (M.pure (.int 5)) xNil))))
    (mSeq (mIf (mTest (mBin dEq (mVar 3) (M.pure (.int 0)))) (mSeq (mSet 7 (mCallN 2 (some 0) Std.fn__law_take (xS 0 (xV (mCall dLen (mCons (mVar 4) mNil)) xNil))))
    (mRet (mOf (mTup (mCons (mBin dAdd (mBin dAdd (mFz (mSl (mVar 4) (mPart none) (mPart (some (mVar 7))))) (mFz (mLst (mCons (mFz (mCallN 2 none fn__law_of_line (xV (mBin dIx (mVar 4) (mVar 7)) (xV (mFz (mCallN 2 (some 0) Std.fn__law_take (xS 0 (xV (M.pure (.int 13)) xNil)))) xNil)))) mNil)))) (mFz (mSl (mVar 4) (mPart (some (mBin dAdd (mVar 7) (M.pure (.int 1))))) (mPart none)))) (mCons (mVar 5) (mCons (mVar 6) mNil))))))) mNx)
    (mSeq (mIf (mTest (mBin dEq (mVar 3) (M.pure (.int 1)))) (mSeq (mSet 7 (mCallN 2 (some 0) Std.fn__law_take (xS 0 (xV (mCall dLen (mCons (mVar 5) mNil)) xNil))))
    (mSeq (mSet 8 (mCallN 4 none fn__law_of_stand (xV (mBin dIx (mVar 5) (mVar 7)) (xV (mFz (mCallN 2 (some 0) Std.fn__law_take (xS 0 (xV (M.pure (.int 11)) xNil)))) (xV (mCall dLen (mCons (mVar 4) mNil)) (xV (mCall dLen (mCons (mVar 5) mNil)) xNil))))))
    (mRet (mOf (mTup (mCons (mVar 4) (mCons (mBin dAdd (mBin dAdd (mFz (mSl (mVar 5) (mPart none) (mPart (some (mVar 7))))) (mFz (mLst (mCons (mVar 8) mNil)))) (mFz (mSl (mVar 5) (mPart (some (mBin dAdd (mVar 7) (M.pure (.int 1))))) (mPart none)))) (mCons (mVar 6) mNil)))))))) mNx)
    (mSeq (mIf (mTest (mBin dEq (mVar 3) (M.pure (.int 2)))) (mRet (mOf (mTup (mCons (mVar 4) (mCons (mVar 5) (mCons (mFz (mCallN 2 none fn__law_of_comers (xV (mVar 6) (xV (mBin dAdd (mBin dMul (M.pure (.int 3)) (mCall dInt (mCons (mFz (mCallN 2 (some 0) Std.fn__law_take (xS 0 (xV (M.pure (.int 2)) xNil)))) mNil))) (mFz (mCallN 2 (some 0) Std.fn__law_take (xS 0 (xV (M.pure (.int 5)) xNil))))) xNil)))) mNil)))))) mNx)
    (mSeq (mIf (mTest (mBin dEq (mVar 3) (M.pure (.int 3)))) (mRet (mCallN 3 (some 0) fn__law_by_kind (xS 0 (xV (mVar 1) (xV (mVar 2) xNil))))) mNx)
    (mRet (mCallN 2 (some 0) fn__law_of_whole (xS 0 (xV (mVar 1) xNil)))))))))
noncomputable def fn__law_broken : List D → Rf := runF (some 0) 9 fb__law_broken
noncomputable def t__law_broken (v_stream_here : Std.Stm) (v_handed : ((List ((List (Int × Int)) × (Int × Int) × Int × Str)) × (List (Int × (Int × Int) × (List (Int × (Int × Int))))) × (Str × (List Raw.PE)))) (v_kind : Str) : (((List ((List (Int × Int)) × (Int × Int) × Int × Str)) × (List (Int × (Int × Int) × (List (Int × (Int × Int))))) × (Str × (List Raw.PE))) × Std.Stm) :=
  bd v_handed (fun (z1 : ((List ((List (Int × Int)) × (Int × Int) × Int × Str)) × (List (Int × (Int × Int) × (List (Int × (Int × Int))))) × (Str × (List Raw.PE)))) => bd ((Std.t__law_take v_stream_here ((5 : Int))).2, (Std.t__law_take v_stream_here ((5 : Int))).1) (fun (z2 : (Std.Stm × Int)) => cond (decide (z2.2 = (0 : Int))) (bd ((Std.t__law_take z2.1 ((z1.1.length : Int))).2, (Std.t__law_take z2.1 ((z1.1.length : Int))).1) (fun (z3 : (Std.Stm × Int)) => (((((cut z1.1 none (some z3.2)) ++ ([(t__law_of_line ((ix z1.1 z3.2)) ((Std.t__law_take z3.1 ((13 : Int))).1))] : List ((List (Int × Int)) × (Int × Int) × Int × Str))) ++ (cut z1.1 (some ((z3.2 + (1 : Int)))) none)), z1.2.1, z1.2.2), (Std.t__law_take z3.1 ((13 : Int))).2))) (cond (decide (z2.2 = (1 : Int))) (bd ((Std.t__law_take z2.1 ((z1.2.1.length : Int))).2, (Std.t__law_take z2.1 ((z1.2.1.length : Int))).1) (fun (z4 : (Std.Stm × Int)) => bd ((Std.t__law_take z4.1 ((11 : Int))).2, (t__law_of_stand ((ix z1.2.1 z4.2)) ((Std.t__law_take z4.1 ((11 : Int))).1) ((z1.1.length : Int)) ((z1.2.1.length : Int)))) (fun (z5 : (Std.Stm × (Int × (Int × Int) × (List (Int × (Int × Int)))))) => ((z1.1, (((cut z1.2.1 none (some z4.2)) ++ ([z5.2] : List (Int × (Int × Int) × (List (Int × (Int × Int)))))) ++ (cut z1.2.1 (some ((z4.2 + (1 : Int)))) none)), z1.2.2), z5.1)))) (cond (decide (z2.2 = (2 : Int))) ((z1.1, z1.2.1, (t__law_of_comers z1.2.2 ((((3 : Int) * (Std.t__law_take z2.1 ((2 : Int))).1) + (Std.t__law_take ((Std.t__law_take z2.1 ((2 : Int))).2) ((5 : Int))).1)))), (Std.t__law_take ((Std.t__law_take z2.1 ((2 : Int))).2) ((5 : Int))).2) (cond (decide (z2.2 = (3 : Int))) ((t__law_by_kind z2.1 v_handed v_kind).1, (t__law_by_kind z2.1 v_handed v_kind).2) ((t__law_of_whole z2.1 v_handed).1, (t__law_of_whole z2.1 v_handed).2))))))
def s__law_broken (v_stream_here : Std.Stm) (v_handed : ((List ((List (Int × Int)) × (Int × Int) × Int × Str)) × (List (Int × (Int × Int) × (List (Int × (Int × Int))))) × (Str × (List Raw.PE)))) (v_kind : Str) : Prop :=
  bd v_handed (fun (z1 : ((List ((List (Int × Int)) × (Int × Int) × Int × Str)) × (List (Int × (Int × Int) × (List (Int × (Int × Int))))) × (Str × (List Raw.PE)))) => bd ((Std.t__law_take v_stream_here ((5 : Int))).2, (Std.t__law_take v_stream_here ((5 : Int))).1) (fun (z2 : (Std.Stm × Int)) => (((decide (z2.2 = (0 : Int))) = true → ((0 < ((z1.1.length : Int))) ∧ (bd ((Std.t__law_take z2.1 ((z1.1.length : Int))).2, (Std.t__law_take z2.1 ((z1.1.length : Int))).1) (fun (z3 : (Std.Stm × Int)) => ((InB z1.1.length z3.2) ∧ (s__law_of_line ((ix z1.1 z3.2)) ((Std.t__law_take z3.1 ((13 : Int))).1)) ∧ (((cut z1.1 none (some z3.2))).length + (([(t__law_of_line ((ix z1.1 z3.2)) ((Std.t__law_take z3.1 ((13 : Int))).1))] : List ((List (Int × Int)) × (Int × Int) × Int × Str))).length ≤ 10000) ∧ ((((cut z1.1 none (some z3.2)) ++ ([(t__law_of_line ((ix z1.1 z3.2)) ((Std.t__law_take z3.1 ((13 : Int))).1))] : List ((List (Int × Int)) × (Int × Int) × Int × Str)))).length + ((cut z1.1 (some ((z3.2 + (1 : Int)))) none)).length ≤ 10000)))))) ∧ ((decide (z2.2 = (0 : Int))) = false → (((decide (z2.2 = (1 : Int))) = true → ((0 < ((z1.2.1.length : Int))) ∧ (bd ((Std.t__law_take z2.1 ((z1.2.1.length : Int))).2, (Std.t__law_take z2.1 ((z1.2.1.length : Int))).1) (fun (z4 : (Std.Stm × Int)) => ((InB z1.2.1.length z4.2) ∧ (s__law_of_stand ((ix z1.2.1 z4.2)) ((Std.t__law_take z4.1 ((11 : Int))).1) ((z1.1.length : Int)) ((z1.2.1.length : Int))) ∧ (bd ((Std.t__law_take z4.1 ((11 : Int))).2, (t__law_of_stand ((ix z1.2.1 z4.2)) ((Std.t__law_take z4.1 ((11 : Int))).1) ((z1.1.length : Int)) ((z1.2.1.length : Int)))) (fun (z5 : (Std.Stm × (Int × (Int × Int) × (List (Int × (Int × Int)))))) => ((((cut z1.2.1 none (some z4.2))).length + (([z5.2] : List (Int × (Int × Int) × (List (Int × (Int × Int)))))).length ≤ 10000) ∧ ((((cut z1.2.1 none (some z4.2)) ++ ([z5.2] : List (Int × (Int × Int) × (List (Int × (Int × Int))))))).length + ((cut z1.2.1 (some ((z4.2 + (1 : Int)))) none)).length ≤ 10000))))))))) ∧ ((decide (z2.2 = (1 : Int))) = false → (((decide (z2.2 = (2 : Int))) = true → ((mulOk ((3 : Int)) ((Std.t__law_take z2.1 ((2 : Int))).1) = true) ∧ (s__law_of_comers z1.2.2 ((((3 : Int) * (Std.t__law_take z2.1 ((2 : Int))).1) + (Std.t__law_take ((Std.t__law_take z2.1 ((2 : Int))).2) ((5 : Int))).1))))) ∧ ((decide (z2.2 = (2 : Int))) = false → (((decide (z2.2 = (3 : Int))) = true → (s__law_by_kind z2.1 v_handed v_kind)) ∧ ((decide (z2.2 = (3 : Int))) = false → (s__law_of_whole z2.1 v_handed)))))))))))
theorem e__law_broken {v_stream_here : Std.Stm} {v_handed : ((List ((List (Int × Int)) × (Int × Int) × Int × Str)) × (List (Int × (Int × Int) × (List (Int × (Int × Int))))) × (Str × (List Raw.PE)))} {v_kind : Str} (h : s__law_broken v_stream_here v_handed v_kind) : fn__law_broken [Std.eStm v_stream_here, (eT3 (eL (eT4 (eL (eT2 D.int D.int)) (eT2 D.int D.int) D.int D.str)) (eL (eT3 D.int (eT2 D.int D.int) (eL (eT2 D.int (eT2 D.int D.int))))) (eT2 D.str (eL Raw.ePE))) v_handed, D.str v_kind] = .ok ((eT3 (eL (eT4 (eL (eT2 D.int D.int)) (eT2 D.int D.int) D.int D.str)) (eL (eT3 D.int (eT2 D.int D.int) (eL (eT2 D.int (eT2 D.int D.int))))) (eT2 D.str (eL Raw.ePE))) (t__law_broken v_stream_here v_handed v_kind).1) .ff (Std.eStm (t__law_broken v_stream_here v_handed v_kind).2) := by
  refine runI (F := (eT3 (eL (eT4 (eL (eT2 D.int D.int)) (eT2 D.int D.int) D.int D.str)) (eL (eT3 D.int (eT2 D.int D.int) (eL (eT2 D.int (eT2 D.int D.int))))) (eT2 D.str (eL Raw.ePE)))) (G := Std.eStm) (o := .ff) (fb := fb__law_broken) (x := t__law_broken v_stream_here v_handed v_kind) ?_
  show JI 0 (eT3 (eL (eT4 (eL (eT2 D.int D.int)) (eT2 D.int D.int) D.int D.str)) (eL (eT3 D.int (eT2 D.int D.int) (eL (eT2 D.int (eT2 D.int D.int))))) (eT2 D.str (eL Raw.ePE))) Std.eStm .ff (fb__law_broken [.io (Std.eStm v_stream_here), .fz ((eT3 (eL (eT4 (eL (eT2 D.int D.int)) (eT2 D.int D.int) D.int D.str)) (eL (eT3 D.int (eT2 D.int D.int) (eL (eT2 D.int (eT2 D.int D.int))))) (eT2 D.str (eL Raw.ePE))) v_handed), .fz (D.str v_kind), .un, .un, .un, .un, .un, .un]) _
  delta fb__law_broken t__law_broken
  delta s__law_broken at h
  exact sqB (ctx := fun (z1 : ((List ((List (Int × Int)) × (Int × Int) × Int × Str)) × (List (Int × (Int × Int) × (List (Int × (Int × Int))))) × (Str × (List Raw.PE)))) => [.io (Std.eStm v_stream_here), .fz ((eT3 (eL (eT4 (eL (eT2 D.int D.int)) (eT2 D.int D.int) D.int D.str)) (eL (eT3 D.int (eT2 D.int D.int) (eL (eT2 D.int (eT2 D.int D.int))))) (eT2 D.str (eL Raw.ePE))) v_handed), .fz (D.str v_kind), .un, .fz ((eL (eT4 (eL (eT2 D.int D.int)) (eT2 D.int D.int) D.int D.str)) z1.1), .fz ((eL (eT3 D.int (eT2 D.int D.int) (eL (eT2 D.int (eT2 D.int D.int))))) z1.2.1), .fz ((eT2 D.str (eL Raw.ePE)) z1.2.2), .un, .un]) (sAsg (vf 1 rfl) rfl) h (fun z1 h => sqB (ctx := fun (z2 : (Std.Stm × Int)) => [.io (Std.eStm z2.1), .fz ((eT3 (eL (eT4 (eL (eT2 D.int D.int)) (eT2 D.int D.int) D.int D.str)) (eL (eT3 D.int (eT2 D.int D.int) (eL (eT2 D.int (eT2 D.int D.int))))) (eT2 D.str (eL Raw.ePE))) v_handed), .fz (D.str v_kind), zI z2.2, .fz ((eL (eT4 (eL (eT2 D.int D.int)) (eT2 D.int D.int) D.int D.str)) z1.1), .fz ((eL (eT3 D.int (eT2 D.int D.int) (eL (eT2 D.int (eT2 D.int D.int))))) z1.2.1), .fz ((eT2 D.str (eL Raw.ePE)) z1.2.2), .un, .un]) (sSet (cN (x1s (i := 0) rfl rfl (x1 rfl x0)) rfl rfl (Std.e__law_take (s := v_stream_here) (most := (5 : Int)) (show 0 < ((5 : Int)) by decide) :) rfl) rfl) h (fun z2 h => sqIf (tst (b2 (vf 3 rfl) rfl dEq_i)) (fun hc => bdh (h.1 hc) (fun h => sAss (sqB (ctx := fun (z3 : (Std.Stm × Int)) => [.io (Std.eStm z3.1), .fz ((eT3 (eL (eT4 (eL (eT2 D.int D.int)) (eT2 D.int D.int) D.int D.str)) (eL (eT3 D.int (eT2 D.int D.int) (eL (eT2 D.int (eT2 D.int D.int))))) (eT2 D.str (eL Raw.ePE))) v_handed), .fz (D.str v_kind), zI z2.2, .fz ((eL (eT4 (eL (eT2 D.int D.int)) (eT2 D.int D.int) D.int D.str)) z1.1), .fz ((eL (eT3 D.int (eT2 D.int D.int) (eL (eT2 D.int (eT2 D.int D.int))))) z1.2.1), .fz ((eT2 D.str (eL Raw.ePE)) z1.2.2), zI z3.2, .un]) (sSet (cN (x1s (i := 0) rfl rfl (x1 (c1 (a1 (vf 4 rfl) a0) (o_lenL (F := (eT4 (eL (eT2 D.int D.int)) (eT2 D.int D.int) D.int D.str)))) x0)) rfl rfl (Std.e__law_take (s := z2.1) (most := (z1.1.length : Int)) h.1 :) rfl) rfl) h.2 (fun z3 h => sqRet (mof (mtup (a1 (b2 (b2 (mfz (slL (F := (eT4 (eL (eT2 D.int D.int)) (eT2 D.int D.int) D.int D.str)) (vf 4 rfl) pt0 (pt1 (vf 7 rfl)))) (mfz (mlst (a1 (mfz (cN (x1 (b2 (vf 4 rfl) (vf 7 rfl) (o_ixL (F := (eT4 (eL (eT2 D.int D.int)) (eT2 D.int D.int) D.int D.str)) (xs := z1.1) h.1)) (x1 (mfz (cN (x1s (i := 0) rfl rfl (x1 rfl x0)) rfl rfl (Std.e__law_take (s := z3.1) (most := (13 : Int)) (show 0 < ((13 : Int)) by decide) :) rfl)) x0)) rfl rfl (e__law_of_line (v_line_here := (ix z1.1 z3.2)) (v_way := (Std.t__law_take z3.1 ((13 : Int))).1) h.2.1 :) rfl)) a0))) (o_addL (F := (eT4 (eL (eT2 D.int D.int)) (eT2 D.int D.int) D.int D.str)) (xs := (cut z1.1 none (some z3.2))) (ys := ([(t__law_of_line ((ix z1.1 z3.2)) ((Std.t__law_take z3.1 ((13 : Int))).1))] : List ((List (Int × Int)) × (Int × Int) × Int × Str))) h.2.2.1)) (mfz (slL (F := (eT4 (eL (eT2 D.int D.int)) (eT2 D.int D.int) D.int D.str)) (vf 4 rfl) (pt1 (b2 (vf 7 rfl) rfl rfl)) pt0)) (o_addL (F := (eT4 (eL (eT2 D.int D.int)) (eT2 D.int D.int) D.int D.str)) (xs := ((cut z1.1 none (some z3.2)) ++ ([(t__law_of_line ((ix z1.1 z3.2)) ((Std.t__law_take z3.1 ((13 : Int))).1))] : List ((List (Int × Int)) × (Int × Int) × Int × Str)))) (ys := (cut z1.1 (some ((z3.2 + (1 : Int)))) none)) h.2.2.2)) (a1 (vf 5 rfl) (a1 (vf 6 rfl) a0))))) (ji_mk rfl rfl))))) (fun hc => bdh (h.2 hc) (fun h => sq rfl (sqIf (tst (b2 (vf 3 rfl) rfl dEq_i)) (fun hc => bdh (h.1 hc) (fun h => sAss (sqB (ctx := fun (z4 : (Std.Stm × Int)) => [.io (Std.eStm z4.1), .fz ((eT3 (eL (eT4 (eL (eT2 D.int D.int)) (eT2 D.int D.int) D.int D.str)) (eL (eT3 D.int (eT2 D.int D.int) (eL (eT2 D.int (eT2 D.int D.int))))) (eT2 D.str (eL Raw.ePE))) v_handed), .fz (D.str v_kind), zI z2.2, .fz ((eL (eT4 (eL (eT2 D.int D.int)) (eT2 D.int D.int) D.int D.str)) z1.1), .fz ((eL (eT3 D.int (eT2 D.int D.int) (eL (eT2 D.int (eT2 D.int D.int))))) z1.2.1), .fz ((eT2 D.str (eL Raw.ePE)) z1.2.2), zI z4.2, .un]) (sSet (cN (x1s (i := 0) rfl rfl (x1 (c1 (a1 (vf 5 rfl) a0) (o_lenL (F := (eT3 D.int (eT2 D.int D.int) (eL (eT2 D.int (eT2 D.int D.int))))))) x0)) rfl rfl (Std.e__law_take (s := z2.1) (most := (z1.2.1.length : Int)) h.1 :) rfl) rfl) h.2 (fun z4 h => sAss (sqB (ctx := fun (z5 : (Std.Stm × (Int × (Int × Int) × (List (Int × (Int × Int)))))) => [.io (Std.eStm z5.1), .fz ((eT3 (eL (eT4 (eL (eT2 D.int D.int)) (eT2 D.int D.int) D.int D.str)) (eL (eT3 D.int (eT2 D.int D.int) (eL (eT2 D.int (eT2 D.int D.int))))) (eT2 D.str (eL Raw.ePE))) v_handed), .fz (D.str v_kind), zI z2.2, .fz ((eL (eT4 (eL (eT2 D.int D.int)) (eT2 D.int D.int) D.int D.str)) z1.1), .fz ((eL (eT3 D.int (eT2 D.int D.int) (eL (eT2 D.int (eT2 D.int D.int))))) z1.2.1), .fz ((eT2 D.str (eL Raw.ePE)) z1.2.2), zI z4.2, .fz ((eT3 D.int (eT2 D.int D.int) (eL (eT2 D.int (eT2 D.int D.int)))) z5.2)]) (sSet (cN (x1 (b2 (vf 5 rfl) (vf 7 rfl) (o_ixL (F := (eT3 D.int (eT2 D.int D.int) (eL (eT2 D.int (eT2 D.int D.int))))) (xs := z1.2.1) h.1)) (x1 (mfz (cN (x1s (i := 0) rfl rfl (x1 rfl x0)) rfl rfl (Std.e__law_take (s := z4.1) (most := (11 : Int)) (show 0 < ((11 : Int)) by decide) :) rfl)) (x1 (c1 (a1 (vf 4 rfl) a0) (o_lenL (F := (eT4 (eL (eT2 D.int D.int)) (eT2 D.int D.int) D.int D.str)))) (x1 (c1 (a1 (vf 5 rfl) a0) (o_lenL (F := (eT3 D.int (eT2 D.int D.int) (eL (eT2 D.int (eT2 D.int D.int))))))) x0)))) rfl rfl (e__law_of_stand (v_stand := (ix z1.2.1 z4.2)) (v_way := (Std.t__law_take z4.1 ((11 : Int))).1) (v_lines := (z1.1.length : Int)) (v_many := (z1.2.1.length : Int)) h.2.1 :) rfl) rfl) h.2.2 (fun z5 h => sqRet (mof (mtup (a1 (vf 4 rfl) (a1 (b2 (b2 (mfz (slL (F := (eT3 D.int (eT2 D.int D.int) (eL (eT2 D.int (eT2 D.int D.int))))) (vf 5 rfl) pt0 (pt1 (vf 7 rfl)))) (mfz (mlst (a1 (vf 8 rfl) a0))) (o_addL (F := (eT3 D.int (eT2 D.int D.int) (eL (eT2 D.int (eT2 D.int D.int))))) (xs := (cut z1.2.1 none (some z4.2))) (ys := ([z5.2] : List (Int × (Int × Int) × (List (Int × (Int × Int)))))) h.1)) (mfz (slL (F := (eT3 D.int (eT2 D.int D.int) (eL (eT2 D.int (eT2 D.int D.int))))) (vf 5 rfl) (pt1 (b2 (vf 7 rfl) rfl rfl)) pt0)) (o_addL (F := (eT3 D.int (eT2 D.int D.int) (eL (eT2 D.int (eT2 D.int D.int))))) (xs := ((cut z1.2.1 none (some z4.2)) ++ ([z5.2] : List (Int × (Int × Int) × (List (Int × (Int × Int))))))) (ys := (cut z1.2.1 (some ((z4.2 + (1 : Int)))) none)) h.2)) (a1 (vf 6 rfl) a0))))) (ji_mk rfl rfl))))))) (fun hc => bdh (h.2 hc) (fun h => sq rfl (sqIf (tst (b2 (vf 3 rfl) rfl dEq_i)) (fun hc => bdh (h.1 hc) (fun h => sqRet (mof (mtup (a1 (vf 4 rfl) (a1 (vf 5 rfl) (a1 (mfz (cN (x1 (vf 6 rfl) (x1 (b2 (b2 rfl (c1 (a1 (mfz (cN (x1s (i := 0) rfl rfl (x1 rfl x0)) rfl rfl (Std.e__law_take (s := z2.1) (most := (2 : Int)) (show 0 < ((2 : Int)) by decide) :) rfl)) a0) o_intI) (o_mul h.1)) (mfz (cN (x1s (i := 0) rfl rfl (x1 rfl x0)) rfl rfl (Std.e__law_take (s := (Std.t__law_take z2.1 ((2 : Int))).2) (most := (5 : Int)) (show 0 < ((5 : Int)) by decide) :) rfl)) rfl) x0)) rfl rfl (e__law_of_comers (v_comers := z1.2.2) (v_way := (((3 : Int) * (Std.t__law_take z2.1 ((2 : Int))).1) + (Std.t__law_take ((Std.t__law_take z2.1 ((2 : Int))).2) ((5 : Int))).1)) h.2 :) rfl)) a0))))) (ji_mk rfl rfl))) (fun hc => bdh (h.2 hc) (fun h => sq rfl (sqIf (tst (b2 (vf 3 rfl) rfl dEq_i)) (fun hc => bdh (h.1 hc) (fun h => sqRet (cN (x1s (i := 0) rfl rfl (x1 (vf 1 rfl) (x1 (vf 2 rfl) x0))) rfl rfl (e__law_by_kind (v_stream_here := z2.1) (v_handed := v_handed) (v_kind := v_kind) h :) rfl) (ji_mk rfl rfl))) (fun hc => bdh (h.2 hc) (fun h => sq rfl (sRet (cN (x1s (i := 0) rfl rfl (x1 (vf 1 rfl) x0)) rfl rfl (e__law_of_whole (v_stream_here := z2.1) (v_handed := v_handed) h :) rfl) (ji_mk rfl rfl)))))))))))))))
noncomputable def fb__law_refused : M Fl :=
  mSeq (mSet 1 (mOf (mCall dRepr (mCons (mVar 0) mNil))))
    (mSeq (mTryAs ["NoNet"] 2 ⟨"RestError", ["NoNet"], fun c => mRet (mOf (mAndV (mIsE c (["NoNet"] : List Str)) (mBin dEq (mCall dRepr (mCons (mVar 0) mNil)) (mVar 1))))⟩ (mSeq (mDrop (mFz (mCallN 3 none Net.fn_made_net (xV (mBin dIx (mVar 0) (M.pure (.int 0))) (xV (mBin dIx (mVar 0) (M.pure (.int 1))) (xV (mBin dIx (mVar 0) (M.pure (.int 2))) xNil))))))
    mNx))
    (mRet (mOf (M.pure (.bl false)))))
noncomputable def fn__law_refused : List D → Rf := runF none 3 fb__law_refused
@[irreducible] noncomputable def t__law_refused (v_handed : ((List ((List (Int × Int)) × (Int × Int) × Int × Str)) × (List (Int × (Int × Int) × (List (Int × (Int × Int))))) × (Str × (List Raw.PE)))) : Bool :=
  bd (rp ((eT3 (eL (eT4 (eL (eT2 D.int D.int)) (eT2 D.int D.int) D.int D.str)) (eL (eT3 D.int (eT2 D.int D.int) (eL (eT2 D.int (eT2 D.int D.int))))) (eT2 D.str (eL Raw.ePE))) v_handed)) (fun (v_before_1 : Str) => bd (rzOf (Net.fn_made_net [(eL (eT4 (eL (eT2 D.int D.int)) (eT2 D.int D.int) D.int D.str)) v_handed.1, (eL (eT3 D.int (eT2 D.int D.int) (eL (eT2 D.int (eT2 D.int D.int))))) v_handed.2.1, (eT2 D.str (eL Raw.ePE)) v_handed.2.2])) (fun (c : Str) => (decide (c ∈ (["NoNet"] : List Str))) && ((decide ((rp ((eT3 (eL (eT4 (eL (eT2 D.int D.int)) (eT2 D.int D.int) D.int D.str)) (eL (eT3 D.int (eT2 D.int D.int) (eL (eT2 D.int (eT2 D.int D.int))))) (eT2 D.str (eL Raw.ePE))) v_handed)) = v_before_1)))))
def s__law_refused (v_handed : ((List ((List (Int × Int)) × (Int × Int) × Int × Str)) × (List (Int × (Int × Int) × (List (Int × (Int × Int))))) × (Str × (List Raw.PE)))) : Prop :=
  ((shows ((eT3 (eL (eT4 (eL (eT2 D.int D.int)) (eT2 D.int D.int) D.int D.str)) (eL (eT3 D.int (eT2 D.int D.int) (eL (eT2 D.int (eT2 D.int D.int))))) (eT2 D.str (eL Raw.ePE))) v_handed) = true) ∧ (bd (rp ((eT3 (eL (eT4 (eL (eT2 D.int D.int)) (eT2 D.int D.int) D.int D.str)) (eL (eT3 D.int (eT2 D.int D.int) (eL (eT2 D.int (eT2 D.int D.int))))) (eT2 D.str (eL Raw.ePE))) v_handed)) (fun (v_before_1 : Str) => bd (rzOf (Net.fn_made_net [(eL (eT4 (eL (eT2 D.int D.int)) (eT2 D.int D.int) D.int D.str)) v_handed.1, (eL (eT3 D.int (eT2 D.int D.int) (eL (eT2 D.int (eT2 D.int D.int))))) v_handed.2.1, (eT2 D.str (eL Raw.ePE)) v_handed.2.2])) (fun (c : Str) => (((Net.r_made_net v_handed.1 v_handed.2.1 v_handed.2.2 c)) ∧ (c ∈ (["NoNet"] : List Str)) ∧ (shows ((eT3 (eL (eT4 (eL (eT2 D.int D.int)) (eT2 D.int D.int) D.int D.str)) (eL (eT3 D.int (eT2 D.int D.int) (eL (eT2 D.int (eT2 D.int D.int))))) (eT2 D.str (eL Raw.ePE))) v_handed) = true))))))
theorem e__law_refused {v_handed : ((List ((List (Int × Int)) × (Int × Int) × Int × Str)) × (List (Int × (Int × Int) × (List (Int × (Int × Int))))) × (Str × (List Raw.PE)))} (h : s__law_refused v_handed) : fn__law_refused [(eT3 (eL (eT4 (eL (eT2 D.int D.int)) (eT2 D.int D.int) D.int D.str)) (eL (eT3 D.int (eT2 D.int D.int) (eL (eT2 D.int (eT2 D.int D.int))))) (eT2 D.str (eL Raw.ePE))) v_handed] = .ok (D.bl (t__law_refused v_handed)) .ff .non := by
  refine run0 (F := D.bl) (o := .ff) (fb := fb__law_refused) (x := t__law_refused v_handed) ?_
  show JR D.bl .ff (fb__law_refused [.fz ((eT3 (eL (eT4 (eL (eT2 D.int D.int)) (eT2 D.int D.int) D.int D.str)) (eL (eT3 D.int (eT2 D.int D.int) (eL (eT2 D.int (eT2 D.int D.int))))) (eT2 D.str (eL Raw.ePE))) v_handed), .un, .un]) _
  delta fb__law_refused t__law_refused
  delta s__law_refused at h
  exact sqB (ctx := fun (v_before_1 : Str) => [.fz ((eT3 (eL (eT4 (eL (eT2 D.int D.int)) (eT2 D.int D.int) D.int D.str)) (eL (eT3 D.int (eT2 D.int D.int) (eL (eT2 D.int (eT2 D.int D.int))))) (eT2 D.str (eL Raw.ePE))) v_handed), .fz (D.str v_before_1), .un]) (sSet (mof (c1 (a1 (vf 0 rfl) a0) (o_reprF (d := (eT3 (eL (eT4 (eL (eT2 D.int D.int)) (eT2 D.int D.int) D.int D.str)) (eL (eT3 D.int (eT2 D.int D.int) (eL (eT2 D.int (eT2 D.int D.int))))) (eT2 D.str (eL Raw.ePE))) v_handed) h.1 (.inl ⟨_, rfl⟩)))) rfl) h.2 (fun v_before_1 h => bdc (v := rzOf (Net.fn_made_net [(eL (eT4 (eL (eT2 D.int D.int)) (eT2 D.int D.int) D.int D.str)) v_handed.1, (eL (eT3 D.int (eT2 D.int D.int) (eL (eT2 D.int (eT2 D.int D.int))))) v_handed.2.1, (eT2 D.str (eL Raw.ePE)) v_handed.2.2])) (S := fun c => (((Net.r_made_net v_handed.1 v_handed.2.1 v_handed.2.2 c)) ∧ (c ∈ (["NoNet"] : List Str)) ∧ (shows ((eT3 (eL (eT4 (eL (eT2 D.int D.int)) (eT2 D.int D.int) D.int D.str)) (eL (eT3 D.int (eT2 D.int D.int) (eL (eT2 D.int (eT2 D.int D.int))))) (eT2 D.str (eL Raw.ePE))) v_handed) = true))) (b := fun (c : Str) => (decide (c ∈ (["NoNet"] : List Str))) && ((decide ((rp ((eT3 (eL (eT4 (eL (eT2 D.int D.int)) (eT2 D.int D.int) D.int D.str)) (eL (eT3 D.int (eT2 D.int D.int) (eL (eT2 D.int (eT2 D.int D.int))))) (eT2 D.str (eL Raw.ePE))) v_handed)) = v_before_1)))) h (fun c h => sqTryAs (ρ1 := [.fz ((eT3 (eL (eT4 (eL (eT2 D.int D.int)) (eT2 D.int D.int) D.int D.str)) (eL (eT3 D.int (eT2 D.int D.int) (eL (eT2 D.int (eT2 D.int D.int))))) (eT2 D.str (eL Raw.ePE))) v_handed), .fz (D.str v_before_1), .un]) (show _ = _ from bdh (Q := JZs [.fz ((eT3 (eL (eT4 (eL (eT2 D.int D.int)) (eT2 D.int D.int) D.int D.str)) (eL (eT3 D.int (eT2 D.int D.int) (eL (eT2 D.int (eT2 D.int D.int))))) (eT2 D.str (eL Raw.ePE))) v_handed), .fz (D.str v_before_1), .un] c _ ()) h.1 (fun h => (by first | exact cZ (x1 (b2 (vf 0 rfl) rfl rfl) (x1 (b2 (vf 0 rfl) rfl rfl) (x1 (b2 (vf 0 rfl) rfl rfl) x0))) rfl rfl (Net.x_made_net (v_lines := v_handed.1) (v_stands := v_handed.2.1) (v_comers := v_handed.2.2) h) | exact bz (cZ (x1 (b2 (vf 0 rfl) rfl rfl) (x1 (b2 (vf 0 rfl) rfl rfl) (x1 (b2 (vf 0 rfl) rfl rfl) x0))) rfl rfl (Net.x_made_net (v_lines := v_handed.1) (v_stands := v_handed.2.1) (v_comers := v_handed.2.2) h)) | exact bz (bz (cZ (x1 (b2 (vf 0 rfl) rfl rfl) (x1 (b2 (vf 0 rfl) rfl rfl) (x1 (b2 (vf 0 rfl) rfl rfl) x0))) rfl rfl (Net.x_made_net (v_lines := v_handed.1) (v_stands := v_handed.2.1) (v_comers := v_handed.2.2) h))) | exact bz (bz (bz (cZ (x1 (b2 (vf 0 rfl) rfl rfl) (x1 (b2 (vf 0 rfl) rfl rfl) (x1 (b2 (vf 0 rfl) rfl rfl) x0))) rfl rfl (Net.x_made_net (v_lines := v_handed.1) (v_stands := v_handed.2.1) (v_comers := v_handed.2.2) h)))) | exact bz (bz (bz (bz (cZ (x1 (b2 (vf 0 rfl) rfl rfl) (x1 (b2 (vf 0 rfl) rfl rfl) (x1 (b2 (vf 0 rfl) rfl rfl) x0))) rfl rfl (Net.x_made_net (v_lines := v_handed.1) (v_stands := v_handed.2.1) (v_comers := v_handed.2.2) h))))) | exact bz (bz (bz (bz (bz (cZ (x1 (b2 (vf 0 rfl) rfl rfl) (x1 (b2 (vf 0 rfl) rfl rfl) (x1 (b2 (vf 0 rfl) rfl rfl) x0))) rfl rfl (Net.x_made_net (v_lines := v_handed.1) (v_stands := v_handed.2.1) (v_comers := v_handed.2.2) h)))))) | exact bz (bz (bz (bz (bz (bz (cZ (x1 (b2 (vf 0 rfl) rfl rfl) (x1 (b2 (vf 0 rfl) rfl rfl) (x1 (b2 (vf 0 rfl) rfl rfl) x0))) rfl rfl (Net.x_made_net (v_lines := v_handed.1) (v_stands := v_handed.2.1) (v_comers := v_handed.2.2) h))))))) | exact bz (bz (bz (bz (bz (bz (bz (cZ (x1 (b2 (vf 0 rfl) rfl rfl) (x1 (b2 (vf 0 rfl) rfl rfl) (x1 (b2 (vf 0 rfl) rfl rfl) x0))) rfl rfl (Net.x_made_net (v_lines := v_handed.1) (v_stands := v_handed.2.1) (v_comers := v_handed.2.2) h))))))))))) h.2.1 rfl h.2.1 (sqUnI (rtE (anV isE (fun _ => b2 (c1 (a1 (vf 0 rfl) a0) (o_reprF (d := (eT3 (eL (eT4 (eL (eT2 D.int D.int)) (eT2 D.int D.int) D.int D.str)) (eL (eT3 D.int (eT2 D.int D.int) (eL (eT2 D.int (eT2 D.int D.int))))) (eT2 D.str (eL Raw.ePE))) v_handed) h.2.2 (.inl ⟨_, rfl⟩))) (vf 1 rfl) dEq_s))) (jr_mk rfl))))
noncomputable def fb__law_at_last : M Fl :=
  mSeq (mAsg (gT 3 (gsC (gN 4) (gsC (gN 5) (gsC (gN 6) gsN)))) (mVar 0))
    (mSeq (mSet 1 (mLst mNil))
    (mSeq (mFor (mIter (mVar 4)) (gT 4 (gsC (gN 7) (gsC (gN 8) (gsC (gN 9) (gsC (gN 10) gsN))))) (mSeq (mApp1 1 (mTup (mCons (mBin dAdd (mBin dAdd (mBin dMul (mFz (mSl (mVar 7) (mPart none) (mPart (some (M.pure (.int 1)))))) (mBin dSub (M.pure (.int 6)) (mCall dLen (mCons (mVar 7) mNil)))) (mFz (mSl (mVar 7) (mPart none) (mPart (some (mUn dNeg (M.pure (.int 1)))))))) (mFz (mLst (mCons (mTup (mCons (M.pure (.int 1000)) (mCons (M.pure (.int 1)) mNil))) mNil)))) (mCons (mVar 8) (mCons (mBin dMul (M.pure (.int 9)) (mCall dInt (mCons (mBin dGt (mVar 9) (M.pure (.int 0))) mNil))) (mCons (mVar 10) mNil))))))
    (mSeq (mKill [7, 8, 9, 10]) mNx)))
    (mSeq (mSet 2 (mLc [11, 12, 13] (mIter (mVar 5)) (gT 3 (gsC (gN 11) (gsC (gN 12) (gsC (gN 13) gsN)))) (M.pure true) (mTup (mCons (mVar 11) (mCons (mTup (mCons (M.pure (.int 1)) (mCons (M.pure (.int 1000)) mNil))) (mCons (mVar 13) mNil))))))
    (mSeq (mFrz 1)
    (mSeq (mFrz 2)
    (mSeq (mSet 3 (mOf (mCall dRepr (mCons (mTup (mCons (mVar 1) (mCons (mVar 2) (mCons (mVar 6) mNil)))) mNil))))
    (mRet (mOf (mAndV (mBin dEq (mCall dRepr (mCons (mFz (mCallN 3 none Net.fn_made_net (xV (mVar 1) (xV (mVar 2) (xV (mVar 6) xNil))))) mNil)) (mVar 3)) (mBin dEq (mCall dRepr (mCons (mTup (mCons (mVar 1) (mCons (mVar 2) (mCons (mVar 6) mNil)))) mNil)) (mVar 3)))))))))))
noncomputable def fn__law_at_last : List D → Rf := runF none 14 fb__law_at_last
@[irreducible] noncomputable def t__law_at_last (v_handed : ((List ((List (Int × Int)) × (Int × Int) × Int × Str)) × (List (Int × (Int × Int) × (List (Int × (Int × Int))))) × (Str × (List Raw.PE)))) : Bool :=
  bd v_handed (fun (z1 : ((List ((List (Int × Int)) × (Int × Int) × Int × Str)) × (List (Int × (Int × Int) × (List (Int × (Int × Int))))) × (Str × (List Raw.PE)))) => bd ([] : List ((List (Int × Int)) × (Int × Int) × Int × Str)) (fun (v_lines_2 : (List ((List (Int × Int)) × (Int × Int) × Int × Str))) => bd (z1.1.foldl (fun (z3 : ((List ((List (Int × Int)) × (Int × Int) × Int × Str)))) (xv4 : ((List (Int × Int)) × (Int × Int) × Int × Str)) => bd (z3 ++ [((((repI ((cut xv4.1 none (some ((1 : Int))))) (((6 : Int) - (xv4.1.length : Int)))) ++ (cut xv4.1 none (some ((-(1 : Int)))))) ++ ([((1000 : Int), (1 : Int))] : List (Int × Int))), xv4.2.1, ((9 : Int) * (Dt.b2i (decide ((0 : Int) < xv4.2.2.1)))), xv4.2.2.2)]) (fun (v_lines_5 : (List ((List (Int × Int)) × (Int × Int) × Int × Str))) => v_lines_5)) v_lines_2) (fun (z6 : ((List ((List (Int × Int)) × (Int × Int) × Int × Str)))) => bd (z1.2.1.map (fun (xv7 : (Int × (Int × Int) × (List (Int × (Int × Int))))) => (xv7.1, ((1 : Int), (1000 : Int)), xv7.2.2))) (fun (v_made_10 : (List (Int × (Int × Int) × (List (Int × (Int × Int)))))) => bd (rp ((eT3 (eL (eT4 (eL (eT2 D.int D.int)) (eT2 D.int D.int) D.int D.str)) (eL (eT3 D.int (eT2 D.int D.int) (eL (eT2 D.int (eT2 D.int D.int))))) (eT2 D.str (eL Raw.ePE))) ((z6, v_made_10, z1.2.2)))) (fun (v_kept_11 : Str) => ((decide ((rp ((eT3 (eL (eT4 (eL (eT2 D.int D.int)) (eT2 D.int D.int) D.int D.str)) (eL (eT3 D.int (eT2 D.int D.int) (eL (eT2 D.int (eT2 D.int D.int))))) (eT2 D.str (eL Raw.ePE))) ((z6, v_made_10, z1.2.2)))) = v_kept_11)) && (decide ((rp ((eT3 (eL (eT4 (eL (eT2 D.int D.int)) (eT2 D.int D.int) D.int D.str)) (eL (eT3 D.int (eT2 D.int D.int) (eL (eT2 D.int (eT2 D.int D.int))))) (eT2 D.str (eL Raw.ePE))) ((z6, v_made_10, z1.2.2)))) = v_kept_11))))))))
def s__law_at_last (v_handed : ((List ((List (Int × Int)) × (Int × Int) × Int × Str)) × (List (Int × (Int × Int) × (List (Int × (Int × Int))))) × (Str × (List Raw.PE)))) : Prop :=
  bd v_handed (fun (z1 : ((List ((List (Int × Int)) × (Int × Int) × Int × Str)) × (List (Int × (Int × Int) × (List (Int × (Int × Int))))) × (Str × (List Raw.PE)))) => bd ([] : List ((List (Int × Int)) × (Int × Int) × Int × Str)) (fun (v_lines_2 : (List ((List (Int × Int)) × (Int × Int) × Int × Str))) => ((sfl (fun (z3 : ((List ((List (Int × Int)) × (Int × Int) × Int × Str)))) (xv4 : ((List (Int × Int)) × (Int × Int) × Int × Str)) => bd (z3 ++ [((((repI ((cut xv4.1 none (some ((1 : Int))))) (((6 : Int) - (xv4.1.length : Int)))) ++ (cut xv4.1 none (some ((-(1 : Int)))))) ++ ([((1000 : Int), (1 : Int))] : List (Int × Int))), xv4.2.1, ((9 : Int) * (Dt.b2i (decide ((0 : Int) < xv4.2.2.1)))), xv4.2.2.2)]) (fun (v_lines_5 : (List ((List (Int × Int)) × (Int × Int) × Int × Str))) => v_lines_5)) (fun (z3 : ((List ((List (Int × Int)) × (Int × Int) × Int × Str)))) (xv4 : ((List (Int × Int)) × (Int × Int) × Int × Str)) => (((((6 : Int) - (xv4.1.length : Int))) < 10000 ∧ -10000 < (((6 : Int) - (xv4.1.length : Int))) ∧ ((cut xv4.1 none (some ((1 : Int))))).length ≤ 1000) ∧ (((repI ((cut xv4.1 none (some ((1 : Int))))) (((6 : Int) - (xv4.1.length : Int))))).length + ((cut xv4.1 none (some ((-(1 : Int)))))).length ≤ 10000) ∧ ((((repI ((cut xv4.1 none (some ((1 : Int))))) (((6 : Int) - (xv4.1.length : Int)))) ++ (cut xv4.1 none (some ((-(1 : Int))))))).length + (([((1000 : Int), (1 : Int))] : List (Int × Int))).length ≤ 10000) ∧ (mulOk ((9 : Int)) ((Dt.b2i (decide ((0 : Int) < xv4.2.2.1)))) = true) ∧ (z3.length < 10000))) z1.1 v_lines_2) ∧ (bd (z1.1.foldl (fun (z3 : ((List ((List (Int × Int)) × (Int × Int) × Int × Str)))) (xv4 : ((List (Int × Int)) × (Int × Int) × Int × Str)) => bd (z3 ++ [((((repI ((cut xv4.1 none (some ((1 : Int))))) (((6 : Int) - (xv4.1.length : Int)))) ++ (cut xv4.1 none (some ((-(1 : Int)))))) ++ ([((1000 : Int), (1 : Int))] : List (Int × Int))), xv4.2.1, ((9 : Int) * (Dt.b2i (decide ((0 : Int) < xv4.2.2.1)))), xv4.2.2.2)]) (fun (v_lines_5 : (List ((List (Int × Int)) × (Int × Int) × Int × Str))) => v_lines_5)) v_lines_2) (fun (z6 : ((List ((List (Int × Int)) × (Int × Int) × Int × Str)))) => ((z1.2.1.length ≤ 10000) ∧ (bd (z1.2.1.map (fun (xv7 : (Int × (Int × Int) × (List (Int × (Int × Int))))) => (xv7.1, ((1 : Int), (1000 : Int)), xv7.2.2))) (fun (v_made_10 : (List (Int × (Int × Int) × (List (Int × (Int × Int)))))) => ((shows ((eT3 (eL (eT4 (eL (eT2 D.int D.int)) (eT2 D.int D.int) D.int D.str)) (eL (eT3 D.int (eT2 D.int D.int) (eL (eT2 D.int (eT2 D.int D.int))))) (eT2 D.str (eL Raw.ePE))) ((z6, v_made_10, z1.2.2))) = true) ∧ (bd (rp ((eT3 (eL (eT4 (eL (eT2 D.int D.int)) (eT2 D.int D.int) D.int D.str)) (eL (eT3 D.int (eT2 D.int D.int) (eL (eT2 D.int (eT2 D.int D.int))))) (eT2 D.str (eL Raw.ePE))) ((z6, v_made_10, z1.2.2)))) (fun (v_kept_11 : Str) => ((Raw.HomC z1.2.2 ∧ Raw.gN z6 v_made_10 z1.2.2 = true) ∧ (shows ((eT3 (eL (eT4 (eL (eT2 D.int D.int)) (eT2 D.int D.int) D.int D.str)) (eL (eT3 D.int (eT2 D.int D.int) (eL (eT2 D.int (eT2 D.int D.int))))) (eT2 D.str (eL Raw.ePE))) ((z6, v_made_10, z1.2.2))) = true) ∧ ((decide ((rp ((eT3 (eL (eT4 (eL (eT2 D.int D.int)) (eT2 D.int D.int) D.int D.str)) (eL (eT3 D.int (eT2 D.int D.int) (eL (eT2 D.int (eT2 D.int D.int))))) (eT2 D.str (eL Raw.ePE))) ((z6, v_made_10, z1.2.2)))) = v_kept_11)) = true → (shows ((eT3 (eL (eT4 (eL (eT2 D.int D.int)) (eT2 D.int D.int) D.int D.str)) (eL (eT3 D.int (eT2 D.int D.int) (eL (eT2 D.int (eT2 D.int D.int))))) (eT2 D.str (eL Raw.ePE))) ((z6, v_made_10, z1.2.2))) = true))))))))))))))
theorem e__law_at_last {v_handed : ((List ((List (Int × Int)) × (Int × Int) × Int × Str)) × (List (Int × (Int × Int) × (List (Int × (Int × Int))))) × (Str × (List Raw.PE)))} (h : s__law_at_last v_handed) : fn__law_at_last [(eT3 (eL (eT4 (eL (eT2 D.int D.int)) (eT2 D.int D.int) D.int D.str)) (eL (eT3 D.int (eT2 D.int D.int) (eL (eT2 D.int (eT2 D.int D.int))))) (eT2 D.str (eL Raw.ePE))) v_handed] = .ok (D.bl (t__law_at_last v_handed)) .ff .non := by
  refine run0 (F := D.bl) (o := .ff) (fb := fb__law_at_last) (x := t__law_at_last v_handed) ?_
  show JR D.bl .ff (fb__law_at_last [.fz ((eT3 (eL (eT4 (eL (eT2 D.int D.int)) (eT2 D.int D.int) D.int D.str)) (eL (eT3 D.int (eT2 D.int D.int) (eL (eT2 D.int (eT2 D.int D.int))))) (eT2 D.str (eL Raw.ePE))) v_handed), .un, .un, .un, .un, .un, .un, .un, .un, .un, .un, .un, .un, .un]) _
  delta fb__law_at_last t__law_at_last
  delta s__law_at_last at h
  exact sqB (ctx := fun (z1 : ((List ((List (Int × Int)) × (Int × Int) × Int × Str)) × (List (Int × (Int × Int) × (List (Int × (Int × Int))))) × (Str × (List Raw.PE)))) => [.fz ((eT3 (eL (eT4 (eL (eT2 D.int D.int)) (eT2 D.int D.int) D.int D.str)) (eL (eT3 D.int (eT2 D.int D.int) (eL (eT2 D.int (eT2 D.int D.int))))) (eT2 D.str (eL Raw.ePE))) v_handed), .un, .un, .un, .fz ((eL (eT4 (eL (eT2 D.int D.int)) (eT2 D.int D.int) D.int D.str)) z1.1), .fz ((eL (eT3 D.int (eT2 D.int D.int) (eL (eT2 D.int (eT2 D.int D.int))))) z1.2.1), .fz ((eT2 D.str (eL Raw.ePE)) z1.2.2), .un, .un, .un, .un, .un, .un, .un]) (sAsg (vf 0 rfl) rfl) h (fun z1 h => sqB (ctx := fun (v_lines_2 : (List ((List (Int × Int)) × (Int × Int) × Int × Str))) => [.fz ((eT3 (eL (eT4 (eL (eT2 D.int D.int)) (eT2 D.int D.int) D.int D.str)) (eL (eT3 D.int (eT2 D.int D.int) (eL (eT2 D.int (eT2 D.int D.int))))) (eT2 D.str (eL Raw.ePE))) v_handed), .ow ((eL (eT4 (eL (eT2 D.int D.int)) (eT2 D.int D.int) D.int D.str)) v_lines_2), .un, .un, .fz ((eL (eT4 (eL (eT2 D.int D.int)) (eT2 D.int D.int) D.int D.str)) z1.1), .fz ((eL (eT3 D.int (eT2 D.int D.int) (eL (eT2 D.int (eT2 D.int D.int))))) z1.2.1), .fz ((eT2 D.str (eL Raw.ePE)) z1.2.2), .un, .un, .un, .un, .un, .un, .un]) (sSetO (mlst a0) rfl) h (fun v_lines_2 h => sqB (ctx := fun (z6 : ((List ((List (Int × Int)) × (Int × Int) × Int × Str)))) => [.fz ((eT3 (eL (eT4 (eL (eT2 D.int D.int)) (eT2 D.int D.int) D.int D.str)) (eL (eT3 D.int (eT2 D.int D.int) (eL (eT2 D.int (eT2 D.int D.int))))) (eT2 D.str (eL Raw.ePE))) v_handed), .ow ((eL (eT4 (eL (eT2 D.int D.int)) (eT2 D.int D.int) D.int D.str)) z6), .un, .un, .fz ((eL (eT4 (eL (eT2 D.int D.int)) (eT2 D.int D.int) D.int D.str)) z1.1), .fz ((eL (eT3 D.int (eT2 D.int D.int) (eL (eT2 D.int (eT2 D.int D.int))))) z1.2.1), .fz ((eT2 D.str (eL Raw.ePE)) z1.2.2), .un, .un, .un, .un, .un, .un, .un]) (forN (F := (eT4 (eL (eT2 D.int D.int)) (eT2 D.int D.int) D.int D.str)) (ctx := fun (z3 : ((List ((List (Int × Int)) × (Int × Int) × Int × Str)))) => [.fz ((eT3 (eL (eT4 (eL (eT2 D.int D.int)) (eT2 D.int D.int) D.int D.str)) (eL (eT3 D.int (eT2 D.int D.int) (eL (eT2 D.int (eT2 D.int D.int))))) (eT2 D.str (eL Raw.ePE))) v_handed), .ow ((eL (eT4 (eL (eT2 D.int D.int)) (eT2 D.int D.int) D.int D.str)) z3), .un, .un, .fz ((eL (eT4 (eL (eT2 D.int D.int)) (eT2 D.int D.int) D.int D.str)) z1.1), .fz ((eL (eT3 D.int (eT2 D.int D.int) (eL (eT2 D.int (eT2 D.int D.int))))) z1.2.1), .fz ((eT2 D.str (eL Raw.ePE)) z1.2.2), .un, .un, .un, .un, .un, .un, .un]) (i_L (F := (eT4 (eL (eT2 D.int D.int)) (eT2 D.int D.int) D.int D.str)) (vf 4 rfl)) h.1 (fun z3 xv4 h => ⟨_, rfl, sqB (ctx := fun (v_lines_5 : (List ((List (Int × Int)) × (Int × Int) × Int × Str))) => [.fz ((eT3 (eL (eT4 (eL (eT2 D.int D.int)) (eT2 D.int D.int) D.int D.str)) (eL (eT3 D.int (eT2 D.int D.int) (eL (eT2 D.int (eT2 D.int D.int))))) (eT2 D.str (eL Raw.ePE))) v_handed), .ow ((eL (eT4 (eL (eT2 D.int D.int)) (eT2 D.int D.int) D.int D.str)) v_lines_5), .un, .un, .fz ((eL (eT4 (eL (eT2 D.int D.int)) (eT2 D.int D.int) D.int D.str)) z1.1), .fz ((eL (eT3 D.int (eT2 D.int D.int) (eL (eT2 D.int (eT2 D.int D.int))))) z1.2.1), .fz ((eT2 D.str (eL Raw.ePE)) z1.2.2), .fz ((eL (eT2 D.int D.int)) xv4.1), .fz ((eT2 D.int D.int) xv4.2.1), zI xv4.2.2.1, .fz (D.str xv4.2.2.2), .un, .un, .un]) (S := fun _ => True) (sApp (i := 1) (F := (eT4 (eL (eT2 D.int D.int)) (eT2 D.int D.int) D.int D.str)) (xs := z3) (v := ((((repI ((cut xv4.1 none (some ((1 : Int))))) (((6 : Int) - (xv4.1.length : Int)))) ++ (cut xv4.1 none (some ((-(1 : Int)))))) ++ ([((1000 : Int), (1 : Int))] : List (Int × Int))), xv4.2.1, ((9 : Int) * (Dt.b2i (decide ((0 : Int) < xv4.2.2.1)))), xv4.2.2.2)) (mtup (a1 (b2 (b2 (b2 (mfz (slL (F := (eT2 D.int D.int)) (vf 7 rfl) pt0 (pt1 rfl))) (b2 rfl (c1 (a1 (vf 7 rfl) a0) (o_lenL (F := (eT2 D.int D.int)))) rfl) (o_mulL (F := (eT2 D.int D.int)) (xs := (cut xv4.1 none (some ((1 : Int))))) h.1)) (mfz (slL (F := (eT2 D.int D.int)) (vf 7 rfl) pt0 (pt1 (u1 rfl rfl)))) (o_addL (F := (eT2 D.int D.int)) (xs := (repI ((cut xv4.1 none (some ((1 : Int))))) (((6 : Int) - (xv4.1.length : Int))))) (ys := (cut xv4.1 none (some ((-(1 : Int)))))) h.2.1)) (mfz (mlst (a1 (mtup (a1 rfl (a1 rfl a0))) a0))) (o_addL (F := (eT2 D.int D.int)) (xs := ((repI ((cut xv4.1 none (some ((1 : Int))))) (((6 : Int) - (xv4.1.length : Int)))) ++ (cut xv4.1 none (some ((-(1 : Int))))))) (ys := ([((1000 : Int), (1 : Int))] : List (Int × Int))) h.2.2.1)) (a1 (vf 8 rfl) (a1 (b2 rfl (c1 (a1 (b2 (vf 9 rfl) rfl rfl) a0) o_int) (o_mul h.2.2.2.1)) (a1 (vf 10 rfl) a0))))) ⟨_, rfl⟩ rfl h.2.2.2.2 rfl) trivial (fun v_lines_5 _ => sq (sKill (show _ = [.fz ((eT3 (eL (eT4 (eL (eT2 D.int D.int)) (eT2 D.int D.int) D.int D.str)) (eL (eT3 D.int (eT2 D.int D.int) (eL (eT2 D.int (eT2 D.int D.int))))) (eT2 D.str (eL Raw.ePE))) v_handed), .ow ((eL (eT4 (eL (eT2 D.int D.int)) (eT2 D.int D.int) D.int D.str)) v_lines_5), .un, .un, .fz ((eL (eT4 (eL (eT2 D.int D.int)) (eT2 D.int D.int) D.int D.str)) z1.1), .fz ((eL (eT3 D.int (eT2 D.int D.int) (eL (eT2 D.int (eT2 D.int D.int))))) z1.2.1), .fz ((eT2 D.str (eL Raw.ePE)) z1.2.2), .un, .un, .un, .un, .un, .un, .un] from rfl)) rfl)⟩)) h.2 (fun z6 h => sqB (ctx := fun (v_made_10 : (List (Int × (Int × Int) × (List (Int × (Int × Int)))))) => [.fz ((eT3 (eL (eT4 (eL (eT2 D.int D.int)) (eT2 D.int D.int) D.int D.str)) (eL (eT3 D.int (eT2 D.int D.int) (eL (eT2 D.int (eT2 D.int D.int))))) (eT2 D.str (eL Raw.ePE))) v_handed), .ow ((eL (eT4 (eL (eT2 D.int D.int)) (eT2 D.int D.int) D.int D.str)) z6), .ow ((eL (eT3 D.int (eT2 D.int D.int) (eL (eT2 D.int (eT2 D.int D.int))))) v_made_10), .un, .fz ((eL (eT4 (eL (eT2 D.int D.int)) (eT2 D.int D.int) D.int D.str)) z1.1), .fz ((eL (eT3 D.int (eT2 D.int D.int) (eL (eT2 D.int (eT2 D.int D.int))))) z1.2.1), .fz ((eT2 D.str (eL Raw.ePE)) z1.2.2), .un, .un, .un, .un, .un, .un, .un]) (sSetO (lcM (F := (eT3 D.int (eT2 D.int D.int) (eL (eT2 D.int (eT2 D.int D.int))))) (G := (eT3 D.int (eT2 D.int D.int) (eL (eT2 D.int (eT2 D.int D.int))))) (φ := fun (xv7 : (Int × (Int × Int) × (List (Int × (Int × Int))))) => (xv7.1, ((1 : Int), (1000 : Int)), xv7.2.2)) (ρ1 := [.fz ((eT3 (eL (eT4 (eL (eT2 D.int D.int)) (eT2 D.int D.int) D.int D.str)) (eL (eT3 D.int (eT2 D.int D.int) (eL (eT2 D.int (eT2 D.int D.int))))) (eT2 D.str (eL Raw.ePE))) v_handed), .ow ((eL (eT4 (eL (eT2 D.int D.int)) (eT2 D.int D.int) D.int D.str)) z6), .un, .un, .fz ((eL (eT4 (eL (eT2 D.int D.int)) (eT2 D.int D.int) D.int D.str)) z1.1), .fz ((eL (eT3 D.int (eT2 D.int D.int) (eL (eT2 D.int (eT2 D.int D.int))))) z1.2.1), .fz ((eT2 D.str (eL Raw.ePE)) z1.2.2), .un, .un, .un, .un, .un, .un, .un]) (i_L (F := (eT3 D.int (eT2 D.int D.int) (eL (eT2 D.int (eT2 D.int D.int))))) (vf 5 rfl)) rfl (fun xv7 hx8 => ⟨_, rfl, rfl, _, mtup (a1 (vf 11 rfl) (a1 (mtup (a1 rfl (a1 rfl a0))) (a1 (vf 13 rfl) a0))), rfl⟩) h.1 rfl) rfl) h.2 (fun v_made_10 h => sq (sFrz (i := 1) rfl (show _ = [.fz ((eT3 (eL (eT4 (eL (eT2 D.int D.int)) (eT2 D.int D.int) D.int D.str)) (eL (eT3 D.int (eT2 D.int D.int) (eL (eT2 D.int (eT2 D.int D.int))))) (eT2 D.str (eL Raw.ePE))) v_handed), .fz ((eL (eT4 (eL (eT2 D.int D.int)) (eT2 D.int D.int) D.int D.str)) z6), .ow ((eL (eT3 D.int (eT2 D.int D.int) (eL (eT2 D.int (eT2 D.int D.int))))) v_made_10), .un, .fz ((eL (eT4 (eL (eT2 D.int D.int)) (eT2 D.int D.int) D.int D.str)) z1.1), .fz ((eL (eT3 D.int (eT2 D.int D.int) (eL (eT2 D.int (eT2 D.int D.int))))) z1.2.1), .fz ((eT2 D.str (eL Raw.ePE)) z1.2.2), .un, .un, .un, .un, .un, .un, .un] from rfl)) (sq (sFrz (i := 2) rfl (show _ = [.fz ((eT3 (eL (eT4 (eL (eT2 D.int D.int)) (eT2 D.int D.int) D.int D.str)) (eL (eT3 D.int (eT2 D.int D.int) (eL (eT2 D.int (eT2 D.int D.int))))) (eT2 D.str (eL Raw.ePE))) v_handed), .fz ((eL (eT4 (eL (eT2 D.int D.int)) (eT2 D.int D.int) D.int D.str)) z6), .fz ((eL (eT3 D.int (eT2 D.int D.int) (eL (eT2 D.int (eT2 D.int D.int))))) v_made_10), .un, .fz ((eL (eT4 (eL (eT2 D.int D.int)) (eT2 D.int D.int) D.int D.str)) z1.1), .fz ((eL (eT3 D.int (eT2 D.int D.int) (eL (eT2 D.int (eT2 D.int D.int))))) z1.2.1), .fz ((eT2 D.str (eL Raw.ePE)) z1.2.2), .un, .un, .un, .un, .un, .un, .un] from rfl)) (sqB (ctx := fun (v_kept_11 : Str) => [.fz ((eT3 (eL (eT4 (eL (eT2 D.int D.int)) (eT2 D.int D.int) D.int D.str)) (eL (eT3 D.int (eT2 D.int D.int) (eL (eT2 D.int (eT2 D.int D.int))))) (eT2 D.str (eL Raw.ePE))) v_handed), .fz ((eL (eT4 (eL (eT2 D.int D.int)) (eT2 D.int D.int) D.int D.str)) z6), .fz ((eL (eT3 D.int (eT2 D.int D.int) (eL (eT2 D.int (eT2 D.int D.int))))) v_made_10), .fz (D.str v_kept_11), .fz ((eL (eT4 (eL (eT2 D.int D.int)) (eT2 D.int D.int) D.int D.str)) z1.1), .fz ((eL (eT3 D.int (eT2 D.int D.int) (eL (eT2 D.int (eT2 D.int D.int))))) z1.2.1), .fz ((eT2 D.str (eL Raw.ePE)) z1.2.2), .un, .un, .un, .un, .un, .un, .un]) (sSet (mof (c1 (a1 (mtup (a1 (vf 1 rfl) (a1 (vf 2 rfl) (a1 (vf 6 rfl) a0)))) a0) (o_reprF (d := (eT3 (eL (eT4 (eL (eT2 D.int D.int)) (eT2 D.int D.int) D.int D.str)) (eL (eT3 D.int (eT2 D.int D.int) (eL (eT2 D.int (eT2 D.int D.int))))) (eT2 D.str (eL Raw.ePE))) ((z6, v_made_10, z1.2.2))) h.1 (.inl ⟨_, rfl⟩)))) rfl) h.2 (fun v_kept_11 h => sRet (mof (anV (b2 (c1 (a1 (mfz (cN (x1 (vf 1 rfl) (x1 (vf 2 rfl) (x1 (vf 6 rfl) x0))) rfl rfl (Raw.e_made_net (v_lines := z6) (v_stands := v_made_10) (v_comers := z1.2.2) h.1 :) rfl)) a0) (o_reprF (d := (eT3 (eL (eT4 (eL (eT2 D.int D.int)) (eT2 D.int D.int) D.int D.str)) (eL (eT3 D.int (eT2 D.int D.int) (eL (eT2 D.int (eT2 D.int D.int))))) (eT2 D.str (eL Raw.ePE))) ((z6, v_made_10, z1.2.2))) h.2.1 (.inl ⟨_, rfl⟩))) (vf 3 rfl) dEq_s) (fun hc12 => b2 (c1 (a1 (mtup (a1 (vf 1 rfl) (a1 (vf 2 rfl) (a1 (vf 6 rfl) a0)))) a0) (o_reprF (d := (eT3 (eL (eT4 (eL (eT2 D.int D.int)) (eT2 D.int D.int) D.int D.str)) (eL (eT3 D.int (eT2 D.int D.int) (eL (eT2 D.int (eT2 D.int D.int))))) (eT2 D.str (eL Raw.ePE))) ((z6, v_made_10, z1.2.2))) (h.2.2 hc12) (.inl ⟨_, rfl⟩))) (vf 3 rfl) dEq_s))) (jr_mk rfl))))))))
noncomputable def fb_law : M Fl :=
  mSeq (mFor (mRange1 (mCons (M.pure (.int 3)) mNil)) (gN 1) (mSeq (mSet 2 (mCallN 2 none Std.fn__law_stream (xV (mVar 0) (xV (mVar 1) xNil))))
    (mSeq (mSet 3 (mOf (mBin dIx (mFz (mLst (mCons (M.pure (.str "wide")) (mCons (M.pure (.str "tight")) (mCons (M.pure (.str "shut")) mNil))))) (mBin dMod (mBin dAdd (mFz (mCallN 2 (some 0) Std.fn__law_take (xS 2 (xV (M.pure (.int 3)) xNil)))) (mVar 1)) (M.pure (.int 3))))))
    (mSeq (mSet 4 (mCallN 2 (some 0) fn__law_good (xS 2 (xV (mVar 3) xNil))))
    (mSeq (mSet 5 (mOf (mCall dRepr (mCons (mVar 4) mNil))))
    (mSeq (mIf (mOr (mTest (mBin dNe (mCall dRepr (mCons (mFz (mCallN 3 none Net.fn_made_net (xV (mBin dIx (mVar 4) (M.pure (.int 0))) (xV (mBin dIx (mVar 4) (M.pure (.int 1))) (xV (mBin dIx (mVar 4) (M.pure (.int 2))) xNil))))) mNil)) (mVar 5))) (mTest (mBin dNe (mCall dRepr (mCons (mVar 4) mNil)) (mVar 5)))) (mRet (mOf (M.pure (.bl false)))) mNx)
    (mSeq (mIf (mNot (mTest (mFz (mCallN 1 none fn__law_at_last (xV (mVar 4) xNil))))) (mRet (mOf (M.pure (.bl false)))) mNx)
    (mSeq (mFor (mRange1 (mCons (M.pure (.int 3)) mNil)) (gN 6) (mSeq (mIf (mNot (mTest (mFz (mCallN 1 none fn__law_refused (xV (mFz (mCallN 3 (some 0) fn__law_broken (xS 2 (xV (mVar 4) (xV (mVar 3) xNil))))) xNil))))) (mRet (mOf (M.pure (.bl false)))) mNx)
    (mSeq (mKill [6]) mNx)))
    (mSeq (mKill [1, 2, 3, 4, 5]) mNx)))))))))
    (mRet (mOf (M.pure (.bl true))))
noncomputable def fn_law : List D → Rf := runF none 7 fb_law
noncomputable def t_law (v_script : (List Int)) : Bool :=
  fwc (flw ((fun (z1 : Unit) (xv2 : Int) => bd (Std.t__law_stream v_script xv2) (fun (v_stream_here_3 : Std.Stm) => bd ((Std.t__law_take v_stream_here_3 ((3 : Int))).2, (ix (([("wide" : Str), ("tight" : Str), ("shut" : Str)] : List Str)) (((((Std.t__law_take v_stream_here_3 ((3 : Int))).1 + xv2)).fmod ((3 : Int)))))) (fun (z4 : (Std.Stm × Str)) => bd ((t__law_good z4.1 z4.2).2, (t__law_good z4.1 z4.2).1) (fun (z5 : (Std.Stm × ((List ((List (Int × Int)) × (Int × Int) × Int × Str)) × (List (Int × (Int × Int) × (List (Int × (Int × Int))))) × (Str × (List Raw.PE))))) => bd (rp ((eT3 (eL (eT4 (eL (eT2 D.int D.int)) (eT2 D.int D.int) D.int D.str)) (eL (eT3 D.int (eT2 D.int D.int) (eL (eT2 D.int (eT2 D.int D.int))))) (eT2 D.str (eL Raw.ePE))) z5.2)) (fun (v_kept_6 : Str) => cond ((!decide ((rp ((eT3 (eL (eT4 (eL (eT2 D.int D.int)) (eT2 D.int D.int) D.int D.str)) (eL (eT3 D.int (eT2 D.int D.int) (eL (eT2 D.int (eT2 D.int D.int))))) (eT2 D.str (eL Raw.ePE))) ((z5.2.1, z5.2.2.1, z5.2.2.2)))) = v_kept_6)) || (!decide ((rp ((eT3 (eL (eT4 (eL (eT2 D.int D.int)) (eT2 D.int D.int) D.int D.str)) (eL (eT3 D.int (eT2 D.int D.int) (eL (eT2 D.int (eT2 D.int D.int))))) (eT2 D.str (eL Raw.ePE))) z5.2)) = v_kept_6))) (Fw.rt false) (cond (!(t__law_at_last z5.2)) (Fw.rt false) (fwc (flw ((fun (z8 : Std.Stm) (xv9 : Int) => cond (!(t__law_refused ((t__law_broken z8 z5.2 z4.2).1))) (Fw.rt false) (Fw.nx ((t__law_broken z8 z5.2 z4.2).2))) : Std.Stm → Int → Fw Std.Stm Bool) (rangeI 0 ((3 : Int))) z5.1) Fw.rt (fun (z10 : Std.Stm) => Fw.nx ())))))))) : Unit → Int → Fw Unit Bool) (rangeI 0 ((3 : Int))) ()) (fun v => v) (fun (z11 : Unit) => true)
def s_law (v_script : (List Int)) : Prop :=
  (sflw ((fun (z1 : Unit) (xv2 : Int) => bd (Std.t__law_stream v_script xv2) (fun (v_stream_here_3 : Std.Stm) => bd ((Std.t__law_take v_stream_here_3 ((3 : Int))).2, (ix (([("wide" : Str), ("tight" : Str), ("shut" : Str)] : List Str)) (((((Std.t__law_take v_stream_here_3 ((3 : Int))).1 + xv2)).fmod ((3 : Int)))))) (fun (z4 : (Std.Stm × Str)) => bd ((t__law_good z4.1 z4.2).2, (t__law_good z4.1 z4.2).1) (fun (z5 : (Std.Stm × ((List ((List (Int × Int)) × (Int × Int) × Int × Str)) × (List (Int × (Int × Int) × (List (Int × (Int × Int))))) × (Str × (List Raw.PE))))) => bd (rp ((eT3 (eL (eT4 (eL (eT2 D.int D.int)) (eT2 D.int D.int) D.int D.str)) (eL (eT3 D.int (eT2 D.int D.int) (eL (eT2 D.int (eT2 D.int D.int))))) (eT2 D.str (eL Raw.ePE))) z5.2)) (fun (v_kept_6 : Str) => cond ((!decide ((rp ((eT3 (eL (eT4 (eL (eT2 D.int D.int)) (eT2 D.int D.int) D.int D.str)) (eL (eT3 D.int (eT2 D.int D.int) (eL (eT2 D.int (eT2 D.int D.int))))) (eT2 D.str (eL Raw.ePE))) ((z5.2.1, z5.2.2.1, z5.2.2.2)))) = v_kept_6)) || (!decide ((rp ((eT3 (eL (eT4 (eL (eT2 D.int D.int)) (eT2 D.int D.int) D.int D.str)) (eL (eT3 D.int (eT2 D.int D.int) (eL (eT2 D.int (eT2 D.int D.int))))) (eT2 D.str (eL Raw.ePE))) z5.2)) = v_kept_6))) (Fw.rt false) (cond (!(t__law_at_last z5.2)) (Fw.rt false) (fwc (flw ((fun (z8 : Std.Stm) (xv9 : Int) => cond (!(t__law_refused ((t__law_broken z8 z5.2 z4.2).1))) (Fw.rt false) (Fw.nx ((t__law_broken z8 z5.2 z4.2).2))) : Std.Stm → Int → Fw Std.Stm Bool) (rangeI 0 ((3 : Int))) z5.1) Fw.rt (fun (z10 : Std.Stm) => Fw.nx ())))))))) : Unit → Int → Fw Unit Bool) (fun (z1 : Unit) (xv2 : Int) => ((0 ≤ xv2 ∧ xv2 < 1000) ∧ (bd (Std.t__law_stream v_script xv2) (fun (v_stream_here_3 : Std.Stm) => ((InB (([("wide" : Str), ("tight" : Str), ("shut" : Str)] : List Str)).length (((((Std.t__law_take v_stream_here_3 ((3 : Int))).1 + xv2)).fmod ((3 : Int))))) ∧ (bd ((Std.t__law_take v_stream_here_3 ((3 : Int))).2, (ix (([("wide" : Str), ("tight" : Str), ("shut" : Str)] : List Str)) (((((Std.t__law_take v_stream_here_3 ((3 : Int))).1 + xv2)).fmod ((3 : Int)))))) (fun (z4 : (Std.Stm × Str)) => ((s__law_good z4.1 z4.2) ∧ (bd ((t__law_good z4.1 z4.2).2, (t__law_good z4.1 z4.2).1) (fun (z5 : (Std.Stm × ((List ((List (Int × Int)) × (Int × Int) × Int × Str)) × (List (Int × (Int × Int) × (List (Int × (Int × Int))))) × (Str × (List Raw.PE))))) => ((shows ((eT3 (eL (eT4 (eL (eT2 D.int D.int)) (eT2 D.int D.int) D.int D.str)) (eL (eT3 D.int (eT2 D.int D.int) (eL (eT2 D.int (eT2 D.int D.int))))) (eT2 D.str (eL Raw.ePE))) z5.2) = true) ∧ (bd (rp ((eT3 (eL (eT4 (eL (eT2 D.int D.int)) (eT2 D.int D.int) D.int D.str)) (eL (eT3 D.int (eT2 D.int D.int) (eL (eT2 D.int (eT2 D.int D.int))))) (eT2 D.str (eL Raw.ePE))) z5.2)) (fun (v_kept_6 : Str) => ((Raw.HomC z5.2.2.2 ∧ Raw.gN z5.2.1 z5.2.2.1 z5.2.2.2 = true) ∧ (shows ((eT3 (eL (eT4 (eL (eT2 D.int D.int)) (eT2 D.int D.int) D.int D.str)) (eL (eT3 D.int (eT2 D.int D.int) (eL (eT2 D.int (eT2 D.int D.int))))) (eT2 D.str (eL Raw.ePE))) ((z5.2.1, z5.2.2.1, z5.2.2.2))) = true) ∧ ((!decide ((rp ((eT3 (eL (eT4 (eL (eT2 D.int D.int)) (eT2 D.int D.int) D.int D.str)) (eL (eT3 D.int (eT2 D.int D.int) (eL (eT2 D.int (eT2 D.int D.int))))) (eT2 D.str (eL Raw.ePE))) ((z5.2.1, z5.2.2.1, z5.2.2.2)))) = v_kept_6)) = false → (shows ((eT3 (eL (eT4 (eL (eT2 D.int D.int)) (eT2 D.int D.int) D.int D.str)) (eL (eT3 D.int (eT2 D.int D.int) (eL (eT2 D.int (eT2 D.int D.int))))) (eT2 D.str (eL Raw.ePE))) z5.2) = true)) ∧ (((!decide ((rp ((eT3 (eL (eT4 (eL (eT2 D.int D.int)) (eT2 D.int D.int) D.int D.str)) (eL (eT3 D.int (eT2 D.int D.int) (eL (eT2 D.int (eT2 D.int D.int))))) (eT2 D.str (eL Raw.ePE))) ((z5.2.1, z5.2.2.1, z5.2.2.2)))) = v_kept_6)) || (!decide ((rp ((eT3 (eL (eT4 (eL (eT2 D.int D.int)) (eT2 D.int D.int) D.int D.str)) (eL (eT3 D.int (eT2 D.int D.int) (eL (eT2 D.int (eT2 D.int D.int))))) (eT2 D.str (eL Raw.ePE))) z5.2)) = v_kept_6))) = false → ((s__law_at_last z5.2) ∧ ((!(t__law_at_last z5.2)) = false → (sflw ((fun (z8 : Std.Stm) (xv9 : Int) => cond (!(t__law_refused ((t__law_broken z8 z5.2 z4.2).1))) (Fw.rt false) (Fw.nx ((t__law_broken z8 z5.2 z4.2).2))) : Std.Stm → Int → Fw Std.Stm Bool) (fun (z8 : Std.Stm) (xv9 : Int) => ((s__law_broken z8 z5.2 z4.2) ∧ (s__law_refused ((t__law_broken z8 z5.2 z4.2).1)))) (rangeI 0 ((3 : Int))) z5.1)))))))))))))))))) (rangeI 0 ((3 : Int))) ())
theorem e_law {v_script : (List Int)} (h : s_law v_script) : fn_law [D.scr v_script] = .ok (D.bl (t_law v_script)) .ff .non := by
  refine run0 (F := D.bl) (o := .ff) (fb := fb_law) (x := t_law v_script) ?_
  show JR D.bl .ff (fb_law [.fz (D.scr v_script), .un, .un, .un, .un, .un, .un]) _
  delta fb_law t_law
  delta s_law at h
  exact forW (F := D.int) (J' := JR D.bl .ff) (ctx := fun (z1 : Unit) => [.fz (D.scr v_script), .un, .un, .un, .un, .un, .un]) (step := ((fun (z1 : Unit) (xv2 : Int) => bd (Std.t__law_stream v_script xv2) (fun (v_stream_here_3 : Std.Stm) => bd ((Std.t__law_take v_stream_here_3 ((3 : Int))).2, (ix (([("wide" : Str), ("tight" : Str), ("shut" : Str)] : List Str)) (((((Std.t__law_take v_stream_here_3 ((3 : Int))).1 + xv2)).fmod ((3 : Int)))))) (fun (z4 : (Std.Stm × Str)) => bd ((t__law_good z4.1 z4.2).2, (t__law_good z4.1 z4.2).1) (fun (z5 : (Std.Stm × ((List ((List (Int × Int)) × (Int × Int) × Int × Str)) × (List (Int × (Int × Int) × (List (Int × (Int × Int))))) × (Str × (List Raw.PE))))) => bd (rp ((eT3 (eL (eT4 (eL (eT2 D.int D.int)) (eT2 D.int D.int) D.int D.str)) (eL (eT3 D.int (eT2 D.int D.int) (eL (eT2 D.int (eT2 D.int D.int))))) (eT2 D.str (eL Raw.ePE))) z5.2)) (fun (v_kept_6 : Str) => cond ((!decide ((rp ((eT3 (eL (eT4 (eL (eT2 D.int D.int)) (eT2 D.int D.int) D.int D.str)) (eL (eT3 D.int (eT2 D.int D.int) (eL (eT2 D.int (eT2 D.int D.int))))) (eT2 D.str (eL Raw.ePE))) ((z5.2.1, z5.2.2.1, z5.2.2.2)))) = v_kept_6)) || (!decide ((rp ((eT3 (eL (eT4 (eL (eT2 D.int D.int)) (eT2 D.int D.int) D.int D.str)) (eL (eT3 D.int (eT2 D.int D.int) (eL (eT2 D.int (eT2 D.int D.int))))) (eT2 D.str (eL Raw.ePE))) z5.2)) = v_kept_6))) (Fw.rt false) (cond (!(t__law_at_last z5.2)) (Fw.rt false) (fwc (flw ((fun (z8 : Std.Stm) (xv9 : Int) => cond (!(t__law_refused ((t__law_broken z8 z5.2 z4.2).1))) (Fw.rt false) (Fw.nx ((t__law_broken z8 z5.2 z4.2).2))) : Std.Stm → Int → Fw Std.Stm Bool) (rangeI 0 ((3 : Int))) z5.1) Fw.rt (fun (z10 : Std.Stm) => Fw.nx ())))))))) : Unit → Int → Fw Unit Bool)) (S := (fun (z1 : Unit) (xv2 : Int) => ((0 ≤ xv2 ∧ xv2 < 1000) ∧ (bd (Std.t__law_stream v_script xv2) (fun (v_stream_here_3 : Std.Stm) => ((InB (([("wide" : Str), ("tight" : Str), ("shut" : Str)] : List Str)).length (((((Std.t__law_take v_stream_here_3 ((3 : Int))).1 + xv2)).fmod ((3 : Int))))) ∧ (bd ((Std.t__law_take v_stream_here_3 ((3 : Int))).2, (ix (([("wide" : Str), ("tight" : Str), ("shut" : Str)] : List Str)) (((((Std.t__law_take v_stream_here_3 ((3 : Int))).1 + xv2)).fmod ((3 : Int)))))) (fun (z4 : (Std.Stm × Str)) => ((s__law_good z4.1 z4.2) ∧ (bd ((t__law_good z4.1 z4.2).2, (t__law_good z4.1 z4.2).1) (fun (z5 : (Std.Stm × ((List ((List (Int × Int)) × (Int × Int) × Int × Str)) × (List (Int × (Int × Int) × (List (Int × (Int × Int))))) × (Str × (List Raw.PE))))) => ((shows ((eT3 (eL (eT4 (eL (eT2 D.int D.int)) (eT2 D.int D.int) D.int D.str)) (eL (eT3 D.int (eT2 D.int D.int) (eL (eT2 D.int (eT2 D.int D.int))))) (eT2 D.str (eL Raw.ePE))) z5.2) = true) ∧ (bd (rp ((eT3 (eL (eT4 (eL (eT2 D.int D.int)) (eT2 D.int D.int) D.int D.str)) (eL (eT3 D.int (eT2 D.int D.int) (eL (eT2 D.int (eT2 D.int D.int))))) (eT2 D.str (eL Raw.ePE))) z5.2)) (fun (v_kept_6 : Str) => ((Raw.HomC z5.2.2.2 ∧ Raw.gN z5.2.1 z5.2.2.1 z5.2.2.2 = true) ∧ (shows ((eT3 (eL (eT4 (eL (eT2 D.int D.int)) (eT2 D.int D.int) D.int D.str)) (eL (eT3 D.int (eT2 D.int D.int) (eL (eT2 D.int (eT2 D.int D.int))))) (eT2 D.str (eL Raw.ePE))) ((z5.2.1, z5.2.2.1, z5.2.2.2))) = true) ∧ ((!decide ((rp ((eT3 (eL (eT4 (eL (eT2 D.int D.int)) (eT2 D.int D.int) D.int D.str)) (eL (eT3 D.int (eT2 D.int D.int) (eL (eT2 D.int (eT2 D.int D.int))))) (eT2 D.str (eL Raw.ePE))) ((z5.2.1, z5.2.2.1, z5.2.2.2)))) = v_kept_6)) = false → (shows ((eT3 (eL (eT4 (eL (eT2 D.int D.int)) (eT2 D.int D.int) D.int D.str)) (eL (eT3 D.int (eT2 D.int D.int) (eL (eT2 D.int (eT2 D.int D.int))))) (eT2 D.str (eL Raw.ePE))) z5.2) = true)) ∧ (((!decide ((rp ((eT3 (eL (eT4 (eL (eT2 D.int D.int)) (eT2 D.int D.int) D.int D.str)) (eL (eT3 D.int (eT2 D.int D.int) (eL (eT2 D.int (eT2 D.int D.int))))) (eT2 D.str (eL Raw.ePE))) ((z5.2.1, z5.2.2.1, z5.2.2.2)))) = v_kept_6)) || (!decide ((rp ((eT3 (eL (eT4 (eL (eT2 D.int D.int)) (eT2 D.int D.int) D.int D.str)) (eL (eT3 D.int (eT2 D.int D.int) (eL (eT2 D.int (eT2 D.int D.int))))) (eT2 D.str (eL Raw.ePE))) z5.2)) = v_kept_6))) = false → ((s__law_at_last z5.2) ∧ ((!(t__law_at_last z5.2)) = false → (sflw ((fun (z8 : Std.Stm) (xv9 : Int) => cond (!(t__law_refused ((t__law_broken z8 z5.2 z4.2).1))) (Fw.rt false) (Fw.nx ((t__law_broken z8 z5.2 z4.2).2))) : Std.Stm → Int → Fw Std.Stm Bool) (fun (z8 : Std.Stm) (xv9 : Int) => ((s__law_broken z8 z5.2 z4.2) ∧ (s__law_refused ((t__law_broken z8 z5.2 z4.2).1)))) (rangeI 0 ((3 : Int))) z5.1))))))))))))))))))) (xs := (rangeI 0 ((3 : Int)))) (s := ()) (kr := (fun v => v)) (kn := fun (z11 : Unit) => true) (S2 := fun (z11 : Unit) => True) isRt_R (fun _ _ h => h) (i_r1 (a1 rfl a0) (show -100000000 < ((3 : Int)) ∧ ((3 : Int)) < 100000000 by decide)) h (@sfwc_T _ _ _) (fun z1 xv2 h => ⟨_, rfl, sqB (ctx := fun (v_stream_here_3 : Std.Stm) => [.fz (D.scr v_script), zI xv2, .ow (Std.eStm v_stream_here_3), .un, .un, .un, .un]) (sSetO (cN (x1 (vf 0 rfl) (x1 (vf 1 rfl) x0)) rfl rfl (Std.e__law_stream (ns := v_script) (k := xv2) h.1 :) rfl) rfl) h.2 (fun v_stream_here_3 h => sqB (ctx := fun (z4 : (Std.Stm × Str)) => [.fz (D.scr v_script), zI xv2, .ow (Std.eStm z4.1), .fz (D.str z4.2), .un, .un, .un]) (sSet (mof (b2 (mfz (mlst (a1 rfl (a1 rfl (a1 rfl a0))))) (b2 (b2 (mfz (cN (x1s (i := 2) rfl rfl (x1 rfl x0)) rfl rfl (Std.e__law_take (s := v_stream_here_3) (most := (3 : Int)) (show 0 < ((3 : Int)) by decide) :) rfl)) (vf 1 rfl) rfl) rfl (o_mod (show ((3 : Int)) ≠ 0 by decide))) (o_ixL (F := D.str) (xs := ([("wide" : Str), ("tight" : Str), ("shut" : Str)] : List Str)) h.1))) rfl) h.2 (fun z4 h => sqB (ctx := fun (z5 : (Std.Stm × ((List ((List (Int × Int)) × (Int × Int) × Int × Str)) × (List (Int × (Int × Int) × (List (Int × (Int × Int))))) × (Str × (List Raw.PE))))) => [.fz (D.scr v_script), zI xv2, .ow (Std.eStm z5.1), .fz (D.str z4.2), .fz ((eT3 (eL (eT4 (eL (eT2 D.int D.int)) (eT2 D.int D.int) D.int D.str)) (eL (eT3 D.int (eT2 D.int D.int) (eL (eT2 D.int (eT2 D.int D.int))))) (eT2 D.str (eL Raw.ePE))) z5.2), .un, .un]) (sSet (cN (x1s (i := 2) rfl rfl (x1 (vf 3 rfl) x0)) rfl rfl (e__law_good (v_stream_here := z4.1) (v_kind := z4.2) h.1 :) rfl) rfl) h.2 (fun z5 h => sqB (ctx := fun (v_kept_6 : Str) => [.fz (D.scr v_script), zI xv2, .ow (Std.eStm z5.1), .fz (D.str z4.2), .fz ((eT3 (eL (eT4 (eL (eT2 D.int D.int)) (eT2 D.int D.int) D.int D.str)) (eL (eT3 D.int (eT2 D.int D.int) (eL (eT2 D.int (eT2 D.int D.int))))) (eT2 D.str (eL Raw.ePE))) z5.2), .fz (D.str v_kept_6), .un]) (sSet (mof (c1 (a1 (vf 4 rfl) a0) (o_reprF (d := (eT3 (eL (eT4 (eL (eT2 D.int D.int)) (eT2 D.int D.int) D.int D.str)) (eL (eT3 D.int (eT2 D.int D.int) (eL (eT2 D.int (eT2 D.int D.int))))) (eT2 D.str (eL Raw.ePE))) z5.2) h.1 (.inl ⟨_, rfl⟩)))) rfl) h.2 (fun v_kept_6 h => sqIf (orr (tst (b2 (c1 (a1 (mfz (cN (x1 (b2 (vf 4 rfl) rfl rfl) (x1 (b2 (vf 4 rfl) rfl rfl) (x1 (b2 (vf 4 rfl) rfl rfl) x0))) rfl rfl (Raw.e_made_net (v_lines := z5.2.1) (v_stands := z5.2.2.1) (v_comers := z5.2.2.2) h.1 :) rfl)) a0) (o_reprF (d := (eT3 (eL (eT4 (eL (eT2 D.int D.int)) (eT2 D.int D.int) D.int D.str)) (eL (eT3 D.int (eT2 D.int D.int) (eL (eT2 D.int (eT2 D.int D.int))))) (eT2 D.str (eL Raw.ePE))) ((z5.2.1, z5.2.2.1, z5.2.2.2))) h.2.1 (.inl ⟨_, rfl⟩))) (vf 5 rfl) dNe_s)) (fun hc7 => tst (b2 (c1 (a1 (vf 4 rfl) a0) (o_reprF (d := (eT3 (eL (eT4 (eL (eT2 D.int D.int)) (eT2 D.int D.int) D.int D.str)) (eL (eT3 D.int (eT2 D.int D.int) (eL (eT2 D.int (eT2 D.int D.int))))) (eT2 D.str (eL Raw.ePE))) z5.2) (h.2.2.1 hc7) (.inl ⟨_, rfl⟩))) (vf 5 rfl) dNe_s))) (fun _ => sqRet (mof rfl) (jw_rt (jr_mk rfl))) (fun hc => bdh (h.2.2.2 hc) (fun h => sq rfl (sqIf (nt (tst (mfz (cN (x1 (vf 4 rfl) x0) rfl rfl (e__law_at_last (v_handed := z5.2) h.1 :) rfl)))) (fun _ => sqRet (mof rfl) (jw_rt (jr_mk rfl))) (fun hc => bdh (h.2 hc) (fun h => sq rfl (forW (F := D.int) (J' := JR D.bl .ff) (ctx := fun (z8 : Std.Stm) => [.fz (D.scr v_script), zI xv2, .ow (Std.eStm z8), .fz (D.str z4.2), .fz ((eT3 (eL (eT4 (eL (eT2 D.int D.int)) (eT2 D.int D.int) D.int D.str)) (eL (eT3 D.int (eT2 D.int D.int) (eL (eT2 D.int (eT2 D.int D.int))))) (eT2 D.str (eL Raw.ePE))) z5.2), .fz (D.str v_kept_6), .un]) (step := ((fun (z8 : Std.Stm) (xv9 : Int) => cond (!(t__law_refused ((t__law_broken z8 z5.2 z4.2).1))) (Fw.rt false) (Fw.nx ((t__law_broken z8 z5.2 z4.2).2))) : Std.Stm → Int → Fw Std.Stm Bool)) (S := (fun (z8 : Std.Stm) (xv9 : Int) => ((s__law_broken z8 z5.2 z4.2) ∧ (s__law_refused ((t__law_broken z8 z5.2 z4.2).1))))) (xs := (rangeI 0 ((3 : Int)))) (s := z5.1) (kr := Fw.rt) (kn := fun (z10 : Std.Stm) => Fw.nx ()) (S2 := fun (z10 : Std.Stm) => True) isRt_R (fun _ _ h => jw_rt h) (i_r1 (a1 rfl a0) (show -100000000 < ((3 : Int)) ∧ ((3 : Int)) < 100000000 by decide)) h (@sfwc_T _ _ _) (fun z8 xv9 h => ⟨_, rfl, sqIf (nt (tst (mfz (cN (x1 (mfz (cN (x1s (i := 2) rfl rfl (x1 (vf 4 rfl) (x1 (vf 3 rfl) x0))) rfl rfl (e__law_broken (v_stream_here := z8) (v_handed := z5.2) (v_kind := z4.2) h.1 :) rfl)) x0) rfl rfl (e__law_refused (v_handed := (t__law_broken z8 z5.2 z4.2).1) h.2 :) rfl)))) (fun _ => sqRet (mof rfl) (jw_rt (jr_mk rfl))) (fun _ => sq rfl (sq (sKill (show _ = [.fz (D.scr v_script), zI xv2, .ow (Std.eStm ((t__law_broken z8 z5.2 z4.2).2)), .fz (D.str z4.2), .fz ((eT3 (eL (eT4 (eL (eT2 D.int D.int)) (eT2 D.int D.int) D.int D.str)) (eL (eT3 D.int (eT2 D.int D.int) (eL (eT2 D.int (eT2 D.int D.int))))) (eT2 D.str (eL Raw.ePE))) z5.2), .fz (D.str v_kept_6), .un] from rfl)) (jw_nx rfl)))⟩) (fun z10 h => sq (sKill (show _ = [.fz (D.scr v_script), .un, .un, .un, .un, .un, .un] from rfl)) (jw_nx rfl))))))))))))⟩) (fun z11 h => sRet (mof rfl) (jr_mk rfl))
end K04
namespace Goi
open PySem L2 Dt Std Net Look Law Thru Turn Wide
theorem ix_setI {n : Nat} {x : List Int} (hx : x.length = n) {s u v : Int} (hs : 0 ≤ s ∧ s < n) (hu : 0 ≤ u ∧ u < n) : ix (setI x s v) u = if u = s then v else ix x u := by
  obtain ⟨s', rfl⟩ : ∃ k : Nat, s = k := ⟨s.toNat, by omega⟩
  obtain ⟨u', rfl⟩ : ∃ k : Nat, u = k := ⟨u.toNat, by omega⟩
  rw [Thru.ix_set (by omega) (by omega)]
  by_cases c : s' = u'
  · subst c; rw [if_pos rfl, if_pos rfl]
  · rw [if_neg c, if_neg (by omega)]
section
variable {net : Net}
end
section
variable {net net' : Net} {a : Int}
end
end Goi
namespace K04
open L2 Dt Raw
open PySem (Str)
theorem cut_from {α : Type} {xs : List α} {t : Int} (h0 : 0 ≤ t) (h1 : t ≤ xs.length) : cut xs (some t) none = xs.drop t.toNat := by
  have e : HT.sIx xs.length 0 (some t) = t.toNat := by
    show (if t < 0 then (t + (xs.length : Int)).toNat else min t.toNat xs.length) = _
    rw [if_neg (by omega)]; omega
  unfold cut
  rw [e]
  show (xs.drop _).take (xs.length - _) = _
  rw [List.take_of_length_le (by rw [List.length_drop]; exact Nat.le_refl _)]
theorem cut_to {α : Type} {xs : List α} {t : Int} (h0 : 0 ≤ t) (h1 : t ≤ xs.length) : cut xs none (some t) = xs.take t.toNat := by
  have e : HT.sIx xs.length xs.length (some t) = t.toNat := by
    show (if t < 0 then (t + (xs.length : Int)).toNat else min t.toNat xs.length) = _
    rw [if_neg (by omega)]; omega
  unfold cut
  rw [e]
  show (xs.drop 0).take (t.toNat - 0) = _
  rw [List.drop_zero]; rfl
open Std (sz)
open Net (SmQ)
def Sm (i : Int) : Prop := i.natAbs < 4096
def SmP (p : P2) : Prop := Sm p.1 ∧ Sm p.2
def Wl : List Str := ["", "stay", "lose", "skip", "no", "Stay", "stays"]
def Wc : List Str := ["open", "shut", "Open", "wide", "", "shut "]
def SmL (l : RLine) : Prop := l.1.length ≤ 8 ∧ (∀ p ∈ l.1, SmP p) ∧ SmP l.2.1 ∧ Sm l.2.2.1 ∧ l.2.2.2 ∈ Wl
def SmS (s : RStand) : Prop := Sm s.1 ∧ SmP s.2.1 ∧ s.2.2.length ≤ 4 ∧ ∀ w ∈ s.2.2, Sm w.1 ∧ SmP w.2
def SmE (x : PE) : Prop := match x with
  | .inl p => SmP p
  | .inr i => Sm i
def SmC (c : RCom) : Prop := c.1 ∈ Wc ∧ c.2.length ≤ 14 ∧ ∀ x ∈ c.2, SmE x
structure SmN (N : RNet) : Prop where
  a : N.1.length ≤ 13
  b : ∀ l ∈ N.1, SmL l
  c : N.2.1.length ≤ 14
  d : ∀ s ∈ N.2.1, SmS s
  e : SmC N.2.2
theorem sh_i {i : Int} (h : Sm i) : ShB 0 12 (.int i) := shB_int (by unfold Sm at h; omega) (by decide)
theorem sh_p {p : P2} (h : SmP p) : ShB 1 26 (eP p) := (shBE_2 (sh_i h.1) (sh_i h.2)).mono (by decide) (by decide)
theorem sh_wl {x : Str} (h : x ∈ Wl) : ShB 0 6 (D.str x) := by
  have : PySem.PyData.strOk x = true ∧ x.cps.size ≤ 6 := by
    unfold Wl at h
    simp only [List.mem_cons, List.not_mem_nil, or_false] at h
    rcases h with h | h | h | h | h | h | h <;> rw [h] <;> exact ⟨by decide +kernel, by decide +kernel⟩
  exact (shB_str this.1).mono (Nat.le_refl 0) this.2
theorem sh_wc {x : Str} (h : x ∈ Wc) : ShB 0 6 (D.str x) := by
  have : PySem.PyData.strOk x = true ∧ x.cps.size ≤ 6 := by
    unfold Wc at h
    simp only [List.mem_cons, List.not_mem_nil, or_false] at h
    rcases h with h | h | h | h | h | h <;> rw [h] <;> exact ⟨by decide +kernel, by decide +kernel⟩
  exact (shB_str this.1).mono (Nat.le_refl 0) this.2
theorem sh_line {l : RLine} (h : SmL l) : ShB 3 300 (eRLine l) := by
  obtain ⟨a, b, c, d, e⟩ := h
  have q := shBE_4 (F := eL eP) (G := eP) (H := D.int) (K := D.str) (p := l) (shBE_L (F := eP) (xs := l.1) fun p hp => sh_p (b p hp)) (sh_p c) (sh_i d) (sh_wl e)
  exact q.mono (by decide) (by omega)
theorem sh_stand {s : RStand} (h : SmS s) : ShB 4 300 (eRStand s) := by
  obtain ⟨a, b, c, d⟩ := h
  have q := shBE_3 (F := D.int) (G := eP) (H := eL eRWay) (p := s) (sh_i a) (sh_p b) (shBE_L (F := eRWay) (n := 2) (w := 40) (xs := s.2.2) fun w hw => (shBE_2 (F := D.int) (G := eP) (sh_i (d w hw).1) (sh_p (d w hw).2)).mono (by decide) (by decide))
  exact q.mono (by decide) (by omega)
theorem sh_e {x : PE} (h : SmE x) : ShB 1 26 (ePE x) := by
  cases x with
  | inl p => exact sh_p h
  | inr i => exact (sh_i h).mono (by decide) (by decide)
theorem shows_n {N : RNet} (h : SmN N) : shows (eRNet N) = true := by
  have c := shBE_2 (F := D.str) (G := eL ePE) (p := N.2.2) (sh_wc h.e.1) (shBE_L (F := ePE) (xs := N.2.2.2) fun x hx => sh_e (h.e.2.2 x hx))
  have q := shBE_3 (F := eL eRLine) (G := eL eRStand) (H := eRCom) (p := N) (shBE_L (F := eRLine) (xs := N.1) fun l hl => sh_line (h.b l hl)) (shBE_L (F := eRStand) (xs := N.2.1) fun s hs => sh_stand (h.d s hs)) c
  have h1 := h.a; have h2 := h.c; have h3 := h.e.2.1
  exact showsB_of q (by decide) (by omega)
theorem mkq_qp (q : Rat) : mkq (qp q) = q := Rat.num_divInt_den q
theorem gF_qp {q : Rat} {an : Bool} (h : SmQ q) (hp : an = true → 0 < q) : gF (qp q) an = true := by
  have d := q.den_pos
  have r := q.reduced
  have h0 := h.1; have h1 := h.2.1; have h2 := h.2.2
  unfold gF qp
  simp only [Bool.and_eq_true, decide_eq_true_iff, Bool.or_eq_true, Bool.not_eq_true']
  refine ⟨⟨⟨h0, h1⟩, ⟨by omega, by omega⟩, ?_⟩, ?_⟩
  · have e : q.num.toNat = q.num.natAbs := by omega
    rw [e, Int.toNat_natCast]
    exact_mod_cast r
  · cases an with
    | false => exact .inr rfl
    | true => exact .inl (Std.num_pos (hp rfl))
theorem gF_sm {p : P2} {an : Bool} (h : gF p an = true) : SmP p := by
  obtain ⟨a, b, c, d, _⟩ := gF_q h
  have := a.1
  exact ⟨by unfold Sm; omega, by unfold Sm; omega⟩
structure GdL (kind : Str) (l : RLine) : Prop where
  n2 : 2 ≤ l.1.length
  n4 : l.1.length ≤ 4
  g : ∀ p ∈ l.1, gF p true = true
  up : l.1.Pairwise fun p q => mkq p < mkq q
  mo : l.2.1 = ((0 : Int), (1 : Int))
  rt : kind = ("tight" : Str) → 1 ≤ l.2.2.1 ∧ l.2.2.1 ≤ 9 ∧ l.2.2.2 ∈ (["stay", "lose", "skip"] : List Str)
  rn : kind ≠ ("tight" : Str) → l.2.2.1 = 0 ∧ l.2.2.2 = ("" : Str)
structure GdS (kind : Str) (L M : Int) (s : RStand) : Prop where
  l0 : 0 ≤ s.1
  l1 : s.1 < L
  ra : gF s.2.1 true = true
  ne : s.2.2 ≠ []
  n2 : s.2.2.length ≤ 2
  ok : allS wStep (wOk M) s.2.2 (-1) = true
  le : ¬ (1 : Rat) < Std.sumQ (sharesQ s.2.2)
  sh : kind = ("shut" : Str) → Std.sumQ (sharesQ s.2.2) = 1
structure GdN (kind : Str) (N : RNet) : Prop where
  l1 : 1 ≤ N.1.length
  l4 : N.1.length ≤ 4
  m1 : N.1.length ≤ N.2.1.length
  m7 : N.2.1.length ≤ 7
  m3 : N.2.1.length ≤ N.1.length + 3
  gl : ∀ l ∈ N.1, GdL kind l
  gs : ∀ s ∈ N.2.1, GdS kind (N.1.length : Int) (N.2.1.length : Int) s
  us : ∀ i : Int, 0 ≤ i → i < N.1.length → ∃ s ∈ N.2.1, s.1 = i
  op : kind ≠ ("shut" : Str) → N.2.2.1 = ("open" : Str) ∧ ∃ ps : List P2, N.2.2.2 = ps.map Sum.inl ∧ ps.length = N.2.1.length ∧ (∀ p ∈ ps, gF p false = true) ∧ ∃ p ∈ ps, p ≠ ((0 : Int), (1 : Int))
  st : kind = ("shut" : Str) → N.2.2.1 = ("shut" : Str) ∧ ∃ ns : List Int, N.2.2.2 = ns.map Sum.inr ∧ ns.length = N.2.1.length ∧ (∀ n ∈ ns, 0 ≤ n ∧ n ≤ 8) ∧ 1 ≤ ns.sum ∧ ns.sum ≤ 8
theorem ps_inl (ps : List P2) : psOf (ps.map Sum.inl) = ps := by
  unfold psOf; rw [List.map_map]; exact List.map_id' ps
theorem ns_inr (ns : List Int) : nsOf (ns.map Sum.inr) = ns := by
  unfold nsOf; rw [List.map_map]; exact List.map_id' ns
theorem homP {w : Str} {ps : List P2} (h : w ≠ ("shut" : Str)) : HomC (w, ps.map Sum.inl) := ⟨fun _ => by rw [ps_inl], fun e => absurd e h⟩
theorem homI {w : Str} {ns : List Int} (h : w ≠ ("open" : Str)) : HomC (w, ns.map Sum.inr) := ⟨fun e => absurd e h, fun _ => by rw [ns_inr]⟩
theorem up_ok {sp : List P2} (h : sp.Pairwise fun p q => mkq p ≤ mkq q) : rising sp = true := by
  unfold rising
  rw [cut_butlast, cut_tail, List.all_eq_true]
  intro x hx
  obtain ⟨i, hi, rfl⟩ := List.getElem_of_mem hx
  rw [List.length_zip, List.length_dropLast, List.length_drop] at hi
  rw [List.getElem_zip]
  dsimp only
  rw [List.getElem_dropLast, List.getElem_drop]
  have := List.pairwise_iff_getElem.mp h i (1 + i) (by omega) (by omega) (by omega)
  simp only [Bool.not_eq_true', decide_eq_false_iff_not]
  exact Rat.not_lt.mpr this
theorem GdL.ok {kind : Str} {l : RLine} (h : GdL kind l) : Raw.gL l = true := by
  have n2 := h.n2; have n4 := h.n4
  unfold Raw.gL
  simp only [Bool.and_eq_true, decide_eq_true_iff]
  refine ⟨⟨by omega, by omega⟩, List.all_eq_true.mpr h.g, up_ok (h.up.imp fun z => Rat.le_of_lt z), by rw [h.mo]; decide, ?_⟩
  by_cases q : kind = ("tight" : Str)
  · obtain ⟨a, b, c⟩ := h.rt q
    refine ⟨⟨by omega, b⟩, ?_⟩
    rw [show decide (l.2.2.1 = 0) = false from decide_eq_false (by omega)]
    exact decide_eq_true c
  · obtain ⟨a, b⟩ := h.rn q
    refine ⟨⟨by omega, by omega⟩, ?_⟩
    rw [a, b]; decide
theorem GdS.good {kind : Str} {L M : Int} {s : RStand} (h : GdS kind L M s) : Raw.gS s L M = true := by
  unfold Raw.gS
  simp only [Bool.and_eq_true, decide_eq_true_iff, Bool.not_eq_true', decide_eq_false_iff_not]
  exact ⟨⟨h.l0, h.l1⟩, h.ra, h.ok, h.le⟩
theorem unused_nil {lines : List RLine} {stands : List RStand} (h : ∀ i : Int, 0 ≤ i → i < lines.length → ∃ s ∈ stands, s.1 = i) : unused lines stands = [] := by
  unfold unused
  rw [List.filter_eq_nil_iff]
  intro i hi
  have := mem_rangeI.mp hi
  obtain ⟨s, hs, e⟩ := h i this.1 this.2
  simp only [Bool.not_eq_true', decide_eq_false_iff_not, Decidable.not_not]
  exact List.mem_map.mpr ⟨s, hs, e⟩
theorem GdN.w {kind : Str} {N : RNet} (h : GdN kind N) : (N.2.2.1 = ("open" : Str) ∨ N.2.2.1 = ("shut" : Str)) ∧ N.2.2.2.length = N.2.1.length ∧ HomC N.2.2 := by
  by_cases k : kind = ("shut" : Str)
  · obtain ⟨a, ns, b, c, _⟩ := h.st k
    refine ⟨.inr a, by rw [b, List.length_map]; exact c, ?_⟩
    show HomC (N.2.2.1, N.2.2.2)
    rw [a, b]
    exact homI (by decide +kernel)
  · obtain ⟨a, ps, b, c, _⟩ := h.op k
    refine ⟨.inl a, by rw [b, List.length_map]; exact c, ?_⟩
    show HomC (N.2.2.1, N.2.2.2)
    rw [a, b]
    exact homP (by decide +kernel)
theorem GdN.ok {kind : Str} {N : RNet} (h : GdN kind N) : Raw.gN N.1 N.2.1 N.2.2 = true := by
  have l1 := h.l1; have l4 := h.l4; have m1 := h.m1; have m7 := h.m7
  have w := h.w
  have hr : ∀ l ∈ N.1, kind ≠ ("tight" : Str) → l.2.2.1 = 0 ∧ l.2.2.2 = ("" : Str) := fun l hl => (h.gl l hl).rn
  unfold Raw.gN
  simp only [Bool.and_eq_true, decide_eq_true_iff]
  refine ⟨⟨⟨by omega, by omega⟩, by omega, by omega⟩, List.all_eq_true.mpr fun l hl => (h.gl l hl).ok, List.all_eq_true.mpr fun s hs => (h.gs s hs).good, unused_nil h.us, ⟨?_, by rw [w.2.1]⟩, ?_⟩
  · rcases w.1 with e | e <;> rw [e] <;> decide +kernel
  · by_cases k : kind = ("shut" : Str)
    · obtain ⟨a, ns, b, c, d, e, f⟩ := h.st k
      rw [a, b, ns_inr, show decide (("shut" : Str) = ("open" : Str)) = false by decide +kernel]
      show gC N.1 N.2.1 ns = true
      have kt : kind ≠ ("tight" : Str) := by rw [k]; decide +kernel
      have nn : ns ≠ [] := fun z => by rw [z] at c; simp at c; omega
      unfold gC
      simp only [Bool.and_eq_true, decide_eq_true_iff, Bool.or_eq_true]
      refine ⟨⟨(d _ (minL_mem nn)).1, e, f⟩, ?_, List.all_eq_true.mpr fun s hs => decide_eq_true ((h.gs s hs).sh k), List.all_eq_true.mpr fun z hz => ?_⟩
      · rw [List.filter_eq_nil_iff]
        intro l hl
        rw [(hr l hl kt).2]; decide +kernel
      · have : z.2 ∈ N.1 := (List.of_mem_zip (show z ∈ (rangeI 0 (N.1.length : Int)).zip N.1 from hz)).2
        rw [(hr _ this kt).1]; rfl
    · obtain ⟨a, ps, b, c, d, p0, p1, p2⟩ := h.op k
      rw [a, b, ps_inl, show decide (("open" : Str) = ("open" : Str)) = true by decide +kernel]
      show gR N.1 ps = true
      have ne : (N.1.map fun l => l.2.2.1) ≠ [] := fun z => by rw [List.map_eq_nil_iff] at z; rw [z] at l1; simp at l1
      unfold gR
      simp only [Bool.and_eq_true, decide_eq_true_iff, Bool.not_eq_true', decide_eq_false_iff_not]
      refine ⟨List.all_eq_true.mpr d, fun z => ?_, ?_⟩
      · have := List.filter_eq_nil_iff.mp z p0 p1
        simp [p2] at this
      · by_cases t : kind = ("tight" : Str)
        · have rm : ∀ x ∈ N.1.map fun l => l.2.2.1, 1 ≤ x := fun x hx => by
            obtain ⟨l, hl, rfl⟩ := List.mem_map.mp hx
            exact ((h.gl l hl).rt t).1
          have m := rm _ (maxL_mem ne)
          have n := rm _ (minL_mem ne)
          rw [show decide (maxL (N.1.map fun l => l.2.2.1) = 0) = false from decide_eq_false (by omega)]
          exact decide_eq_true (by omega)
        · have rm : ∀ x ∈ N.1.map fun l => l.2.2.1, x = 0 := fun x hx => by
            obtain ⟨l, hl, rfl⟩ := List.mem_map.mp hx
            exact ((h.gl l hl).rn t).1
          rw [rm _ (maxL_mem ne)]
          refine decide_eq_true ?_
          rw [List.filter_eq_nil_iff]
          intro l hl
          rw [(h.gl l hl).mo]; decide +kernel
theorem gS_sm {s : RStand} {L M : Int} (hL : L ≤ 13) (hM : M ≤ 14) (h : Raw.gS s L M = true) (n : s.2.2.length ≤ 4) : SmS s := by
  unfold Raw.gS at h
  simp only [Bool.and_eq_true, decide_eq_true_iff, Bool.not_eq_true', decide_eq_false_iff_not] at h
  obtain ⟨⟨a, b⟩, c, d, _⟩ := h
  refine ⟨by unfold Sm; omega, gF_sm c, n, ?_⟩
  have key : ∀ (xs : List RWay) (l : Int), -1 ≤ l → allS wStep (wOk M) xs l = true → ∀ w ∈ xs, Sm w.1 ∧ SmP w.2 := by
    intro xs
    induction xs with
    | nil => exact fun _ _ _ w hw => (nomatch hw)
    | cons x r ih =>
      intro l hl z w hw
      unfold allS at z
      rw [Bool.and_eq_true] at z
      have z1 := z.1
      unfold wOk at z1
      simp only [Bool.and_eq_true, decide_eq_true_iff] at z1
      rcases List.mem_cons.mp hw with rfl | hw
      · exact ⟨by unfold Sm; omega, gF_sm z1.2⟩
      · exact ih x.1 (by omega) z.2 w hw
  exact key s.2.2 (-1) (by omega) d
theorem gL_sm {kind : Str} {l : RLine} (h : GdL kind l) : SmL l := by
  have n4 := h.n4
  refine ⟨by omega, fun p hp => gF_sm (h.g p hp), by rw [h.mo]; exact ⟨by unfold Sm; decide, by unfold Sm; decide⟩, ?_, ?_⟩
  · by_cases t : kind = ("tight" : Str)
    · have := (h.rt t).1; have := (h.rt t).2.1; unfold Sm; omega
    · rw [(h.rn t).1]; unfold Sm; decide
  · by_cases t : kind = ("tight" : Str)
    · have e := (h.rt t).2.2
      simp only [List.mem_cons, List.not_mem_nil, or_false] at e
      unfold Wl
      rcases e with e | e | e <;> rw [e] <;> decide +kernel
    · rw [(h.rn t).2]; decide +kernel
theorem GdN.smC {kind : Str} {N : RNet} (h : GdN kind N) : SmC N.2.2 := by
  have m7 := h.m7
  refine ⟨?_, by rw [h.w.2.1]; omega, fun x hx => ?_⟩
  · rcases h.w.1 with e | e <;> rw [e] <;> decide +kernel
  · by_cases k : kind = ("shut" : Str)
    · obtain ⟨a, ns, b, c, d, e, f⟩ := h.st k
      rw [b] at hx
      obtain ⟨n, hn, rfl⟩ := List.mem_map.mp hx
      have := d n hn
      show Sm n
      unfold Sm; omega
    · obtain ⟨a, ps, b, c, d, _⟩ := h.op k
      rw [b] at hx
      obtain ⟨p, hp, rfl⟩ := List.mem_map.mp hx
      exact gF_sm (d p hp)
theorem GdN.sm {kind : Str} {N : RNet} (h : GdN kind N) : SmN N := by
  have l4 := h.l4; have m7 := h.m7
  exact ⟨by omega, fun l hl => gL_sm (h.gl l hl), by omega, fun s hs => gS_sm (by omega) (by omega) (h.gs s hs).good (by have := (h.gs s hs).n2; omega), h.smC⟩
theorem no_line {lines : List RLine} {stands : List RStand} {c : RCom} {l : RLine} (hl : l ∈ lines) (h : Raw.gL l = false) : Raw.gN lines stands c = false := by
  have : lines.all Raw.gL = false := by rw [List.all_eq_false]; exact ⟨l, hl, by rw [h]; decide⟩
  unfold Raw.gN
  rw [this, Bool.false_and, Bool.and_false]
theorem no_stand {lines : List RLine} {stands : List RStand} {c : RCom} {s : RStand} (hs : s ∈ stands) (h : Raw.gS s (lines.length : Int) (stands.length : Int) = false) : Raw.gN lines stands c = false := by
  have : (stands.all fun s => Raw.gS s (lines.length : Int) (stands.length : Int)) = false := by rw [List.all_eq_false]; exact ⟨s, hs, by rw [h]; decide⟩
  unfold Raw.gN
  rw [this, Bool.false_and, Bool.and_false, Bool.and_false]
theorem no_word {lines : List RLine} {stands : List RStand} {c : RCom} (h : c.1 ∉ (["open", "shut"] : List Str) ∨ c.2.length ≠ stands.length) : Raw.gN lines stands c = false := by
  have : (decide (c.1 ∈ (["open", "shut"] : List Str)) && decide ((c.2.length : Int) = (stands.length : Int))) = false := by
    rcases h with h | h
    · rw [decide_eq_false h]; rfl
    · rw [show decide ((c.2.length : Int) = (stands.length : Int)) = false from decide_eq_false (by omega), Bool.and_false]
  unfold Raw.gN
  rw [this, Bool.false_and, Bool.and_false, Bool.and_false, Bool.and_false, Bool.and_false]
theorem no_open {lines : List RLine} {stands : List RStand} {ps : List P2} (h : gR lines ps = false) : Raw.gN lines stands (("open" : Str), ps.map Sum.inl) = false := by
  unfold Raw.gN
  dsimp only
  rw [ps_inl, show decide (("open" : Str) = ("open" : Str)) = true by decide +kernel, h]
  simp
theorem no_shut {lines : List RLine} {stands : List RStand} {ns : List Int} (h : gC lines stands ns = false) : Raw.gN lines stands (("shut" : Str), ns.map Sum.inr) = false := by
  unfold Raw.gN
  dsimp only
  rw [ns_inr, show decide (("shut" : Str) = ("open" : Str)) = false by decide +kernel, h]
  simp
theorem gL_sp {l : RLine} {p : P2} (hp : p ∈ l.1) (h : gF p true = false) : Raw.gL l = false := by
  have : (l.1.all fun p => gF p true) = false := by rw [List.all_eq_false]; exact ⟨p, hp, by rw [h]; decide⟩
  unfold Raw.gL
  rw [this, Bool.false_and, Bool.and_false]
theorem gL_len {l : RLine} (h : l.1.length < 1 ∨ 6 < l.1.length) : Raw.gL l = false := by
  unfold Raw.gL
  rw [show (decide ((1 : Int) ≤ (l.1.length : Int)) && decide ((l.1.length : Int) ≤ 6)) = false by
    rcases h with h | h
    · rw [show decide ((1 : Int) ≤ (l.1.length : Int)) = false from decide_eq_false (by omega)]; rfl
    · rw [show decide ((l.1.length : Int) ≤ 6) = false from decide_eq_false (by omega), Bool.and_false], Bool.false_and]
theorem gL_more {l : RLine} (h : gF l.2.1 false = false) : Raw.gL l = false := by
  unfold Raw.gL; rw [h]; simp
theorem gL_room {l : RLine} (h : l.2.2.1 < 0 ∨ 9 < l.2.2.1) : Raw.gL l = false := by
  unfold Raw.gL
  rw [show (decide (0 ≤ l.2.2.1) && decide (l.2.2.1 ≤ 9)) = false by
    rcases h with h | h
    · rw [show decide (0 ≤ l.2.2.1) = false from decide_eq_false (by omega)]; rfl
    · rw [show decide (l.2.2.1 ≤ 9) = false from decide_eq_false (by omega), Bool.and_false]]
  simp
def rOk (room : Int) (rule : Str) : Bool := cond (decide (room = 0)) (decide (rule = ("" : Str))) (decide (rule ∈ (["stay", "lose", "skip"] : List Str)))
theorem gL_rule {l : RLine} (h : rOk l.2.2.1 l.2.2.2 = false) : Raw.gL l = false := by
  unfold rOk at h
  unfold Raw.gL; rw [h]; simp
theorem repI_one {α : Type} (x : α) (k : Int) : repI [x] k = List.replicate k.toNat x := by
  unfold repI
  induction k.toNat with
  | zero => rfl
  | succ n ih => rw [List.replicate_succ, List.flatten_cons, ih]; rfl
theorem gL_up {l : RLine} (h : rising l.1 = false) : Raw.gL l = false := by
  unfold Raw.gL; rw [h]; simp
theorem cut1 {α : Type} {xs : List α} (h : xs ≠ []) : ∃ a, cut xs none (some 1) = [a] ∧ xs.head? = some a := by
  cases xs with
  | nil => exact absurd rfl h
  | cons a r =>
    refine ⟨a, ?_, rfl⟩
    rw [cut_to (by decide) (by rw [List.length_cons]; omega)]
    rfl
theorem line_no {kind : Str} {l : RLine} (h : GdL kind l) {w : Int} (h0 : 0 ≤ w) (h1 : w < 13) : s__law_of_line l w ∧ SmL (t__law_of_line l w) ∧ Raw.gL (t__law_of_line l w) = false := by
  have n2 := h.n2; have n4 := h.n4
  have sm := gL_sm h
  obtain ⟨sp, more, room, rule⟩ := l
  dsimp only at n2 n4
  obtain ⟨s1, s2, s3, s4, s5⟩ := sm
  dsimp only at s1 s2 s3 s4 s5
  have hn : sp ≠ [] := fun z => by rw [z] at n2; simp at n2
  have ld : (cut sp none (some (-1))).length ≤ 4 := by rw [cut_butlast, List.length_dropLast]; omega
  have lt : (cut sp (some 1) none).length ≤ 4 := by rw [cut_tail, List.length_drop]; omega
  have i1 : ∀ {lo hi : Option Int} {x : P2}, x ∈ cut sp lo hi → x ∈ sp := fun h => List.mem_of_mem_drop (List.mem_of_mem_take h)
  have smp : ∀ {lo hi : Option Int} {x : P2}, x ∈ cut sp lo hi → SmP x := fun h => s2 _ (i1 h)
  have ap : ∀ {xs ys : List P2}, xs.length + ys.length ≤ 8 → (∀ p ∈ xs, SmP p) → (∀ p ∈ ys, SmP p) → ∀ (m : P2) (r : Int) (u : Str), SmP m → Sm r → u ∈ Wl → SmL (xs ++ ys, m, r, u) := fun a b c m r u d e f => ⟨by rw [List.length_append]; exact a, fun p hp => (List.mem_append.mp hp).elim (b p) (c p), d, e, f⟩
  have one : ∀ {a b : Int}, Sm a → Sm b → ∀ p ∈ [((a, b) : P2)], SmP p := fun ha hb p hp => by rw [List.mem_singleton.mp hp]; exact ⟨ha, hb⟩
  have K : ∀ {w : Int}, decide (w = w) = true := by simp
  have f4 := Int.fmod_nonneg_of_pos (sp.length : Int) (show (0 : Int) < 4 by decide)
  have f4' := Int.fmod_lt_of_pos (sp.length : Int) (show (0 : Int) < 4 by decide)
  have f3 := Int.fmod_nonneg_of_pos (sp.length : Int) (show (0 : Int) < 3 by decide)
  have f3' := Int.fmod_lt_of_pos (sp.length : Int) (show (0 : Int) < 3 by decide)
  have bb : ∀ k : Bool, 0 ≤ Dt.b2i k ∧ Dt.b2i k < 2 := fun k => by cases k <;> decide
  have b1 := bb (!decide (rule = ("" : Str)))
  have b2 := bb (decide (0 < room))
  obtain ⟨a0, e0, e0'⟩ := cut1 hn
  have ht : a0 ∈ sp := List.mem_of_mem_head? e0'
  have rl : (repI [ix sp 0] (8 - (sp.length : Int))).length = 8 - sp.length := by rw [repI_one, List.length_replicate]; omega
  have rm : ∀ p ∈ repI [ix sp 0] (8 - (sp.length : Int)), SmP p := fun p hp => by
    rw [repI_one] at hp
    rw [List.eq_of_mem_replicate hp]
    exact s2 _ (ix_mem (inB_nat (by decide) (by omega)))
  refine ⟨?_, ?_⟩
  · unfold s__law_of_line bd
    dsimp only
    repeat' first | intro _ | apply And.intro
    all_goals first
      | assumption
      | omega
      | (simp only [List.length_cons, List.length_nil, rl, e0]; omega)
      | (simp only [List.length_cons, List.length_nil, rl, e0, List.length_append]; omega)
  · have hw : w = 0 ∨ w = 1 ∨ w = 2 ∨ w = 3 ∨ w = 4 ∨ w = 5 ∨ w = 6 ∨ w = 7 ∨ w = 8 ∨ w = 9 ∨ w = 10 ∨ w = 11 ∨ w = 12 := by omega
    have mem_r : ∀ (xs : List P2) (p : P2), p ∈ xs ++ [p] := fun xs p => by simp
    rcases hw with rfl | rfl | rfl | rfl | rfl | rfl | rfl | rfl | rfl | rfl | rfl | rfl | rfl
    · show SmL (cut sp none (some (-1)) ++ [((0 : Int), (1 : Int))], more, room, rule) ∧ Raw.gL (cut sp none (some (-1)) ++ [((0 : Int), (1 : Int))], more, room, rule) = false
      exact ⟨ap (by simp; omega) (fun p hp => smp hp) (one (by unfold Sm; decide) (by unfold Sm; decide)) _ _ _ s3 s4 s5, gL_sp (mem_r _ _) (by decide +kernel)⟩
    · show SmL (([] : List P2), more, room, rule) ∧ Raw.gL (([] : List P2), more, room, rule) = false
      exact ⟨⟨by simp, fun p hp => (nomatch hp), s3, s4, s5⟩, gL_len (.inl (by simp))⟩
    · show SmL (repI [ix sp 0] (8 - (sp.length : Int)) ++ cut sp (some 1) none, more, room, rule) ∧ Raw.gL (repI [ix sp 0] (8 - (sp.length : Int)) ++ cut sp (some 1) none, more, room, rule) = false
      have le : (cut sp (some 1) none).length = sp.length - 1 := by rw [cut_tail, List.length_drop]
      exact ⟨ap (by omega) rm (fun p hp => smp hp) _ _ _ s3 s4 s5, gL_len (.inr (by dsimp only; rw [List.length_append]; omega))⟩
    · show SmL (sp ++ cut sp none (some 1), more, room, rule) ∧ Raw.gL (sp ++ cut sp none (some 1), more, room, rule) = false
      refine ⟨ap (by rw [e0]; simp; omega) s2 (fun p hp => smp hp) _ _ _ s3 s4 s5, gL_up ?_⟩
      dsimp only
      rw [e0]
      unfold rising
      rw [cut_butlast, cut_tail, List.all_eq_false]
      obtain ⟨r, rfl⟩ : ∃ r, sp = a0 :: r := by cases sp with
        | nil => exact absurd rfl hn
        | cons x r => simp at e0'; exact ⟨r, by rw [e0']⟩
      have rn : r ≠ [] := fun z => by rw [z] at n2; simp at n2
      have lt0 : mkq a0 < mkq (r.getLast rn) := (List.pairwise_cons.mp h.up).1 _ (List.getLast_mem rn)
      refine ⟨(r.getLast rn, a0), ?_, by simp [lt0]⟩
      have e1 : ((a0 :: r) ++ [a0]).dropLast = a0 :: r := List.dropLast_concat
      have e2 : ((a0 :: r) ++ [a0]).drop 1 = r ++ [a0] := rfl
      rw [e1, e2]
      have e3 : a0 :: r = (a0 :: r.dropLast) ++ [r.getLast rn] := by rw [List.cons_append, List.dropLast_concat_getLast rn]
      rw [e3, List.zip_append (by simp; have := List.length_pos_iff.mpr rn; omega)]
      simp
    · show SmL ([((2 : Int), (4 : Int))] ++ cut sp (some 1) none, more, room, rule) ∧ Raw.gL ([((2 : Int), (4 : Int))] ++ cut sp (some 1) none, more, room, rule) = false
      exact ⟨ap (by simp; omega) (one (by unfold Sm; decide) (by unfold Sm; decide)) (fun p hp => smp hp) _ _ _ s3 s4 s5, gL_sp (p := (2, 4)) (by simp) (by decide +kernel)⟩
    · show SmL (cut sp none (some (-1)) ++ [((1001 : Int), (1 : Int))], more, room, rule) ∧ Raw.gL (cut sp none (some (-1)) ++ [((1001 : Int), (1 : Int))], more, room, rule) = false
      exact ⟨ap (by simp; omega) (fun p hp => smp hp) (one (by unfold Sm; decide) (by unfold Sm; decide)) _ _ _ s3 s4 s5, gL_sp (mem_r _ _) (by decide +kernel)⟩
    · show SmL ([((1 : Int), (1001 : Int))] ++ cut sp (some 1) none, more, room, rule) ∧ Raw.gL ([((1 : Int), (1001 : Int))] ++ cut sp (some 1) none, more, room, rule) = false
      exact ⟨ap (by simp; omega) (one (by unfold Sm; decide) (by unfold Sm; decide)) (fun p hp => smp hp) _ _ _ s3 s4 s5, gL_sp (p := (1, 1001)) (by simp) (by decide +kernel)⟩
    · show SmL (sp, ((-1 : Int), (2 : Int)), room, rule) ∧ Raw.gL (sp, ((-1 : Int), (2 : Int)), room, rule) = false
      exact ⟨⟨s1, s2, ⟨by unfold Sm; dsimp only; decide +kernel, by unfold Sm; dsimp only; decide +kernel⟩, s4, s5⟩, gL_more (show gF ((-1 : Int), (2 : Int)) false = false by decide +kernel)⟩
    · show SmL (sp, more, ix ([-1, 10] : List Int) (Dt.b2i (!decide (rule = ("" : Str)))), rule) ∧ Raw.gL (sp, more, ix ([-1, 10] : List Int) (Dt.b2i (!decide (rule = ("" : Str)))), rule) = false
      generalize (!decide (rule = ("" : Str))) = k
      cases k
      · exact ⟨⟨s1, s2, s3, by unfold Sm; dsimp only; decide +kernel, s5⟩, gL_room (.inl (by dsimp only; decide +kernel))⟩
      · exact ⟨⟨s1, s2, s3, by unfold Sm; dsimp only; decide +kernel, s5⟩, gL_room (.inr (by dsimp only; decide +kernel))⟩
    · show SmL (sp, more, room, ix (["skip", ""] : List Str) (Dt.b2i (decide (0 < room)))) ∧ Raw.gL (sp, more, room, ix (["skip", ""] : List Str) (Dt.b2i (decide (0 < room)))) = false
      by_cases q : 0 < room
      · rw [decide_eq_true q]
        refine ⟨⟨s1, s2, s3, s4, by dsimp only; decide +kernel⟩, gL_rule ?_⟩
        show rOk room (ix (["skip", ""] : List Str) 1) = false
        unfold rOk
        rw [show decide (room = 0) = false from decide_eq_false (by omega)]
        decide +kernel
      · have r0 : room = 0 := by
          by_cases t : kind = ("tight" : Str)
          · have := (h.rt t).1; dsimp only at this; omega
          · exact (h.rn t).1
        subst r0
        exact ⟨⟨s1, s2, s3, s4, by dsimp only; decide +kernel⟩, gL_rule (show rOk 0 (ix (["skip", ""] : List Str) (Dt.b2i (decide ((0 : Int) < 0)))) = false by decide +kernel)⟩
    · show SmL (sp, more, 9, ix (["no", "Stay", "", "stays"] : List Str) ((sp.length : Int).fmod 4)) ∧ Raw.gL (sp, more, 9, ix (["no", "Stay", "", "stays"] : List Str) ((sp.length : Int).fmod 4)) = false
      have : (sp.length : Int).fmod 4 = 0 ∨ (sp.length : Int).fmod 4 = 1 ∨ (sp.length : Int).fmod 4 = 2 ∨ (sp.length : Int).fmod 4 = 3 := by omega
      rcases this with e | e | e | e <;> rw [e]
      · exact ⟨⟨s1, s2, s3, by unfold Sm; dsimp only; decide +kernel, by dsimp only; decide +kernel⟩, gL_rule (show rOk 9 (ix (["no", "Stay", "", "stays"] : List Str) 0) = false by decide +kernel)⟩
      · exact ⟨⟨s1, s2, s3, by unfold Sm; dsimp only; decide +kernel, by dsimp only; decide +kernel⟩, gL_rule (show rOk 9 (ix (["no", "Stay", "", "stays"] : List Str) 1) = false by decide +kernel)⟩
      · exact ⟨⟨s1, s2, s3, by unfold Sm; dsimp only; decide +kernel, by dsimp only; decide +kernel⟩, gL_rule (show rOk 9 (ix (["no", "Stay", "", "stays"] : List Str) 2) = false by decide +kernel)⟩
      · exact ⟨⟨s1, s2, s3, by unfold Sm; dsimp only; decide +kernel, by dsimp only; decide +kernel⟩, gL_rule (show rOk 9 (ix (["no", "Stay", "", "stays"] : List Str) 3) = false by decide +kernel)⟩
    · show SmL (sp, ix ([((2 : Int), (4 : Int)), (1001, 1), (1, 1001)] : List P2) ((sp.length : Int).fmod 3), room, rule) ∧ Raw.gL (sp, ix ([((2 : Int), (4 : Int)), (1001, 1), (1, 1001)] : List P2) ((sp.length : Int).fmod 3), room, rule) = false
      have : (sp.length : Int).fmod 3 = 0 ∨ (sp.length : Int).fmod 3 = 1 ∨ (sp.length : Int).fmod 3 = 2 := by omega
      rcases this with e | e | e <;> rw [e] <;> exact ⟨⟨s1, s2, ⟨by unfold Sm; dsimp only; decide +kernel, by unfold Sm; dsimp only; decide +kernel⟩, s4, s5⟩, gL_more (by dsimp only; decide +kernel)⟩
    · show SmL ([((-1 : Int), (1 : Int))] ++ cut sp (some 1) none, more, room, rule) ∧ Raw.gL ([((-1 : Int), (1 : Int))] ++ cut sp (some 1) none, more, room, rule) = false
      exact ⟨ap (by simp; omega) (one (by unfold Sm; decide) (by unfold Sm; decide)) (fun p hp => smp hp) _ _ _ s3 s4 s5, gL_sp (p := (-1, 1)) (by simp) (by decide +kernel)⟩
theorem gS_line {s : RStand} {L M : Int} (h : s.1 < 0 ∨ L ≤ s.1) : Raw.gS s L M = false := by
  unfold Raw.gS
  rw [show (decide (0 ≤ s.1) && decide (s.1 < L)) = false by
    rcases h with h | h
    · rw [show decide (0 ≤ s.1) = false from decide_eq_false (by omega)]; rfl
    · rw [show decide (s.1 < L) = false from decide_eq_false (by omega), Bool.and_false], Bool.false_and]
theorem gS_rate {s : RStand} {L M : Int} (h : gF s.2.1 true = false) : Raw.gS s L M = false := by
  unfold Raw.gS; rw [h]; simp
theorem gS_way {s : RStand} {L M : Int} (h : allS wStep (wOk M) s.2.2 (-1) = false) : Raw.gS s L M = false := by
  unfold Raw.gS; rw [h]; simp
theorem gS_tot {s : RStand} {L M : Int} (h : (1 : Rat) < Std.sumQ (sharesQ s.2.2)) : Raw.gS s L M = false := by
  unfold Raw.gS; simp [h]
theorem wOk_sh {M l : Int} {w : RWay} (h : gF w.2 true = false) : wOk M l w = false := by unfold wOk; rw [h, Bool.and_false]
theorem wOk_up {M l : Int} {w : RWay} (h : w.1 ≤ l ∨ M ≤ w.1) : wOk M l w = false := by
  unfold wOk
  rcases h with h | h
  · rw [show decide (l < w.1) = false from decide_eq_false (by omega)]; rfl
  · rw [show decide (w.1 < M) = false from decide_eq_false (by omega)]; simp
theorem stand_no {kind : Str} {L M : Int} {s : RStand} (h : GdS kind L M s) (L1 : 1 ≤ L) (L4 : L ≤ 4) (M1 : 1 ≤ M) (M7 : M ≤ 7) {w : Int} (h0 : 0 ≤ w) (h1 : w < 11) : s__law_of_stand s w L M ∧ SmS (t__law_of_stand s w L M) ∧ Raw.gS (t__law_of_stand s w L M) L M = false := by
  have sm := gS_sm (by omega) (by omega) h.good (by have := h.n2; omega)
  have ok := h.ok
  obtain ⟨line, rate, goes⟩ := s
  have ne := h.ne; have n2 := h.n2
  dsimp only at ne n2 ok
  obtain ⟨s1, s2, s3, s4⟩ := sm
  dsimp only at s1 s2 s3 s4
  have bb : ∀ k : Bool, 0 ≤ Dt.b2i k ∧ Dt.b2i k < 2 := fun k => by cases k <;> decide
  have b3 := bb (decide (3 < M))
  have f2 := Int.fmod_nonneg_of_pos (goes.length : Int) (show (0 : Int) < 2 by decide)
  have f2' := Int.fmod_lt_of_pos (goes.length : Int) (show (0 : Int) < 2 by decide)
  have f3 := Int.fmod_nonneg_of_pos M (show (0 : Int) < 3 by decide)
  have f3' := Int.fmod_lt_of_pos M (show (0 : Int) < 3 by decide)
  have ld : (cut goes none (some (-1))).length ≤ 2 := by rw [cut_butlast, List.length_dropLast]; omega
  have lp : 0 < goes.length := List.length_pos_iff.mpr ne
  have c4 : ∀ {a b : Int}, Sm a → Sm b → SmP (a, b) := fun a b => ⟨a, b⟩
  have la : ix goes (-1) ∈ goes := ix_mem (inB_last lp)
  have lw := s4 _ la
  have sd : ∀ x ∈ cut goes none (some (-1)), Sm x.1 ∧ SmP x.2 := fun x hx => s4 x (List.mem_of_mem_drop (List.mem_of_mem_take hx))
  have bad : ∀ (xs : List RWay) (l : Int) (x : RWay), gF x.2 true = false → allS wStep (wOk M) (xs ++ [x]) l = false := by
    intro xs
    induction xs with
    | nil => intro l x hx; show (wOk M l x && allS wStep (wOk M) [] (wStep l x)) = false; rw [wOk_sh hx]; rfl
    | cons y r ih => intro l x hx; show (wOk M l y && allS wStep (wOk M) (r ++ [x]) (wStep l y)) = false; rw [ih _ x hx, Bool.and_false]
  have put : ∀ (q : P2), SmP q → gF q true = false → SmS (line, rate, cut goes none (some (-1)) ++ [((ix goes (-1)).1, q)]) ∧ Raw.gS (line, rate, cut goes none (some (-1)) ++ [((ix goes (-1)).1, q)]) L M = false := fun q hq hb =>
    ⟨⟨s1, s2, by dsimp only; rw [List.length_append, List.length_singleton]; omega, fun x hx => (List.mem_append.mp hx).elim (sd x) fun z => by rw [List.mem_singleton.mp z]; exact ⟨lw.1, hq⟩⟩, gS_way (bad _ _ _ hb)⟩
  refine ⟨?_, ?_⟩
  · unfold s__law_of_stand bd
    dsimp only
    repeat' first | intro _ | apply And.intro
    all_goals first
      | assumption
      | omega
      | (simp only [List.length_cons, List.length_nil]; omega)
      | (simp only [List.length_cons, List.length_nil, List.length_append]; omega)
  · have hw : w = 0 ∨ w = 1 ∨ w = 2 ∨ w = 3 ∨ w = 4 ∨ w = 5 ∨ w = 6 ∨ w = 7 ∨ w = 8 ∨ w = 9 ∨ w = 10 := by omega
    have e2 : (goes.length : Int).fmod 2 = 0 ∨ (goes.length : Int).fmod 2 = 1 := by omega
    have last : ∀ v : Int, (v = 9 ∨ v = 10) → t__law_of_stand (line, rate, goes) v L M = cond (decide (v = 9) && decide (1 < M)) (line, rate, [((0 : Int), ((2 : Int), (3 : Int))), (M - 1, (2, 3))]) (cond (decide (1 < M)) (line, rate, [((1 : Int), ((1 : Int), (4 : Int))), (0, (1, 4))]) (line, rate, [((0 : Int), ((3 : Int), (2 : Int)))])) := by
      rintro v (rfl | rfl) <;> rfl
    have lb : SmS (line, rate, [((1 : Int), ((1 : Int), (4 : Int))), (0, (1, 4))]) ∧ Raw.gS (line, rate, [((1 : Int), ((1 : Int), (4 : Int))), (0, (1, 4))]) L M = false := by
      refine ⟨⟨s1, s2, by simp, fun x hx => ?_⟩, gS_way ?_⟩
      · simp only [List.mem_cons, List.not_mem_nil, or_false] at hx
        rcases hx with rfl | rfl <;> exact ⟨by unfold Sm; decide, by unfold Sm; decide, by unfold Sm; decide⟩
      · show (wOk M (-1) (1, (1, 4)) && (wOk M 1 (0, (1, 4)) && true)) = false
        rw [wOk_up (M := M) (l := 1) (w := (0, (1, 4))) (.inl (by decide))]; simp
    have lc : SmS (line, rate, [((0 : Int), ((3 : Int), (2 : Int)))]) ∧ Raw.gS (line, rate, [((0 : Int), ((3 : Int), (2 : Int)))]) L M = false := by
      refine ⟨⟨s1, s2, by simp, fun x hx => ?_⟩, gS_tot ?_⟩
      · rw [List.mem_singleton.mp hx]; exact ⟨by unfold Sm; decide, by unfold Sm; decide, by unfold Sm; decide⟩
      · show (1 : Rat) < Std.sumQ (sharesQ [((0 : Int), ((3 : Int), (2 : Int)))])
        decide +kernel
    rcases hw with rfl | rfl | rfl | rfl | rfl | rfl | rfl | rfl | rfl | rfl | rfl
    · show SmS (ix ([-1, L] : List Int) ((goes.length : Int).fmod 2), rate, goes) ∧ Raw.gS (ix ([-1, L] : List Int) ((goes.length : Int).fmod 2), rate, goes) L M = false
      rcases e2 with e | e <;> rw [e]
      · exact ⟨⟨show Sm (-1) by unfold Sm; decide, s2, s3, s4⟩, gS_line (.inl (show (-1 : Int) < 0 by decide))⟩
      · exact ⟨⟨show Sm L by unfold Sm; omega, s2, s3, s4⟩, gS_line (.inr (Int.le_refl L))⟩
    · show SmS (line, ix ([((0 : Int), (1 : Int)), (-1, 5)] : List P2) ((goes.length : Int).fmod 2), goes) ∧ Raw.gS (line, ix ([((0 : Int), (1 : Int)), (-1, 5)] : List P2) ((goes.length : Int).fmod 2), goes) L M = false
      rcases e2 with e | e <;> rw [e]
      · exact ⟨⟨s1, show SmP (0, 1) from ⟨by unfold Sm; decide, by unfold Sm; decide⟩, s3, s4⟩, gS_rate (show gF (0, 1) true = false by decide +kernel)⟩
      · exact ⟨⟨s1, show SmP (-1, 5) from ⟨by unfold Sm; decide, by unfold Sm; decide⟩, s3, s4⟩, gS_rate (show gF (-1, 5) true = false by decide +kernel)⟩
    · show SmS (line, rate, goes ++ [ix goes (-1)]) ∧ Raw.gS (line, rate, goes ++ [ix goes (-1)]) L M = false
      refine ⟨⟨s1, s2, by dsimp only; rw [List.length_append, List.length_singleton]; omega, fun x hx => (List.mem_append.mp hx).elim (s4 x) fun z => by rw [List.mem_singleton.mp z]; exact lw⟩, gS_way ?_⟩
      match goes, ne, n2 with
      | [a], _, _ =>
        show (wOk M (-1) a && (wOk M a.1 a && true)) = false
        rw [wOk_up (M := M) (l := a.1) (w := a) (.inl (Int.le_refl _))]; simp
      | [a, b], _, _ =>
        show (wOk M (-1) a && (wOk M a.1 b && (wOk M b.1 b && true))) = false
        rw [wOk_up (M := M) (l := b.1) (w := b) (.inl (Int.le_refl _))]; simp
    · show SmS (line, rate, [((0 : Int), ((1 : Int), (4 : Int))), (M, (1, 4))]) ∧ Raw.gS (line, rate, [((0 : Int), ((1 : Int), (4 : Int))), (M, (1, 4))]) L M = false
      refine ⟨⟨s1, s2, by simp, fun x hx => ?_⟩, gS_way ?_⟩
      · simp only [List.mem_cons, List.not_mem_nil, or_false] at hx
        rcases hx with rfl | rfl
        · exact ⟨by unfold Sm; decide, by unfold Sm; decide, by unfold Sm; decide⟩
        · exact ⟨show Sm M by unfold Sm; omega, show SmP (1, 4) from ⟨by unfold Sm; decide, by unfold Sm; decide⟩⟩
      · show (wOk M (-1) (0, (1, 4)) && (wOk M 0 (M, (1, 4)) && true)) = false
        rw [wOk_up (M := M) (l := 0) (w := (M, (1, 4))) (.inr (Int.le_refl _))]; simp
    · show SmS (line, rate, [((-1 : Int), ((1 : Int), (4 : Int)))] ++ goes) ∧ Raw.gS (line, rate, [((-1 : Int), ((1 : Int), (4 : Int)))] ++ goes) L M = false
      refine ⟨⟨s1, s2, by dsimp only; rw [List.length_append, List.length_singleton]; omega, fun x hx => (List.mem_append.mp hx).elim (fun z => by rw [List.mem_singleton.mp z]; exact ⟨by unfold Sm; decide, by unfold Sm; decide, by unfold Sm; decide⟩) (s4 x)⟩, gS_way ?_⟩
      show (wOk M (-1) (-1, (1, 4)) && allS wStep (wOk M) goes (-1)) = false
      rw [wOk_up (M := M) (l := -1) (w := (-1, (1, 4))) (.inl (by decide))]; rfl
    · exact put (0, 1) ⟨by unfold Sm; decide, by unfold Sm; decide⟩ (by decide +kernel)
    · exact put (1001, 1000) ⟨by unfold Sm; decide, by unfold Sm; decide⟩ (by decide +kernel)
    · show SmS (line, ix ([((3 : Int), (6 : Int)), (1001, 1), (1, 1001)] : List P2) ((goes.length : Int).fmod 2 + Dt.b2i (decide (3 < M))), goes) ∧ Raw.gS (line, ix ([((3 : Int), (6 : Int)), (1001, 1), (1, 1001)] : List P2) ((goes.length : Int).fmod 2 + Dt.b2i (decide (3 < M))), goes) L M = false
      have e : (goes.length : Int).fmod 2 + Dt.b2i (decide (3 < M)) = 0 ∨ (goes.length : Int).fmod 2 + Dt.b2i (decide (3 < M)) = 1 ∨ (goes.length : Int).fmod 2 + Dt.b2i (decide (3 < M)) = 2 := by omega
      rcases e with e | e | e <;> rw [e]
      · exact ⟨⟨s1, show SmP (3, 6) from ⟨by unfold Sm; decide, by unfold Sm; decide⟩, s3, s4⟩, gS_rate (show gF (3, 6) true = false by decide +kernel)⟩
      · exact ⟨⟨s1, show SmP (1001, 1) from ⟨by unfold Sm; decide, by unfold Sm; decide⟩, s3, s4⟩, gS_rate (show gF (1001, 1) true = false by decide +kernel)⟩
      · exact ⟨⟨s1, show SmP (1, 1001) from ⟨by unfold Sm; decide, by unfold Sm; decide⟩, s3, s4⟩, gS_rate (show gF (1, 1001) true = false by decide +kernel)⟩
    · show SmS (line, rate, cut goes none (some (-1)) ++ [((ix goes (-1)).1, ix ([((2 : Int), (8 : Int)), (1, 1001), (-1, 4)] : List P2) (M.fmod 3))]) ∧ Raw.gS (line, rate, cut goes none (some (-1)) ++ [((ix goes (-1)).1, ix ([((2 : Int), (8 : Int)), (1, 1001), (-1, 4)] : List P2) (M.fmod 3))]) L M = false
      have e : M.fmod 3 = 0 ∨ M.fmod 3 = 1 ∨ M.fmod 3 = 2 := by omega
      rcases e with e | e | e <;> rw [e]
      · exact put (2, 8) ⟨by unfold Sm; decide, by unfold Sm; decide⟩ (by decide +kernel)
      · exact put (1, 1001) ⟨by unfold Sm; decide, by unfold Sm; decide⟩ (by decide +kernel)
      · exact put (-1, 4) ⟨by unfold Sm; decide, by unfold Sm; decide⟩ (by decide +kernel)
    · rw [last 9 (.inl rfl)]
      by_cases m : 1 < M
      · rw [decide_eq_true m]
        show SmS (line, rate, [((0 : Int), ((2 : Int), (3 : Int))), (M - 1, (2, 3))]) ∧ Raw.gS (line, rate, [((0 : Int), ((2 : Int), (3 : Int))), (M - 1, (2, 3))]) L M = false
        refine ⟨⟨s1, s2, by simp, fun x hx => ?_⟩, gS_tot ?_⟩
        · simp only [List.mem_cons, List.not_mem_nil, or_false] at hx
          rcases hx with rfl | rfl
          · exact ⟨by unfold Sm; decide, by unfold Sm; decide, by unfold Sm; decide⟩
          · exact ⟨show Sm (M - 1) by unfold Sm; omega, show SmP (2, 3) from ⟨by unfold Sm; decide, by unfold Sm; decide⟩⟩
        · show (1 : Rat) < Std.sumQ [mkq ((2 : Int), (3 : Int)), mkq ((2 : Int), (3 : Int))]
          decide +kernel
      · rw [decide_eq_false m]; exact lc
    · rw [last 10 (.inr rfl)]
      by_cases m : 1 < M
      · rw [decide_eq_true m]; exact lb
      · rw [decide_eq_false m]; exact lc
theorem hom_sub {w : Str} {xs ys : List PE} (h : HomC (w, xs)) (hs : ∀ x ∈ ys, x ∈ xs) : HomC (w, ys) := by
  refine ⟨fun e => ?_, fun e => ?_⟩
  · have h1 := h.1 e
    dsimp only at h1 ⊢
    unfold psOf
    rw [List.map_map]
    refine ((List.map_congr_left fun x hx => ?_).trans (List.map_id' ys)).symm
    have := hs x hx
    rw [h1] at this
    obtain ⟨p, _, rfl⟩ := List.mem_map.mp this
    rfl
  · have h1 := h.2 e
    dsimp only at h1 ⊢
    unfold nsOf
    rw [List.map_map]
    refine ((List.map_congr_left fun x hx => ?_).trans (List.map_id' ys)).symm
    have := hs x hx
    rw [h1] at this
    obtain ⟨p, _, rfl⟩ := List.mem_map.mp this
    rfl
theorem comers_no {kind : Str} {N : RNet} (h : GdN kind N) {w : Int} (h0 : 0 ≤ w) (h1 : w < 8) : s__law_of_comers N.2.2 w ∧ SmC (t__law_of_comers N.2.2 w) ∧ HomC (t__law_of_comers N.2.2 w) ∧ Raw.gN N.1 N.2.1 (t__law_of_comers N.2.2 w) = false := by
  have sm := h.smC
  have W := h.w
  have m1 : 1 ≤ N.2.1.length := by have := h.l1; have := h.m1; omega
  have m7 := h.m7
  have Hop := h.op; have Hst := h.st
  obtain ⟨row, stands, word, nums⟩ := N
  dsimp only at sm W m1 m7 Hop Hst
  obtain ⟨W1, W2, W3⟩ := W
  obtain ⟨c1, c2, c3⟩ := sm
  dsimp only at c1 c2 c3 W2
  have f4 := Int.fmod_nonneg_of_pos (nums.length : Int) (show (0 : Int) < 4 by decide)
  have f4' := Int.fmod_lt_of_pos (nums.length : Int) (show (0 : Int) < 4 by decide)
  have g5 := Int.fmod_nonneg_of_pos w (show (0 : Int) < 5 by decide)
  have g5' := Int.fmod_lt_of_pos w (show (0 : Int) < 5 by decide)
  have g3 := Int.fmod_nonneg_of_pos w (show (0 : Int) < 3 by decide)
  have g3' := Int.fmod_lt_of_pos w (show (0 : Int) < 3 by decide)
  have ld : (cut nums none (some (-1))).length = nums.length - 1 := by rw [cut_butlast, List.length_dropLast]
  have lt : (cut nums (some 1) none).length = nums.length - 1 := by rw [cut_tail, List.length_drop]
  have l1 : (cut nums none (some 1)).length = 1 := by rw [cut_to (by decide) (by omega), List.length_take]; omega
  have sub : ∀ {lo hi : Option Int} {x : PE}, x ∈ cut nums lo hi → x ∈ nums := fun h => List.mem_of_mem_drop (List.mem_of_mem_take h)
  have rp : ∀ {α : Type} (x : α) (k : Int), (repI [x] k).length = k.toNat := fun x k => by rw [repI_one, List.length_replicate]
  have w2 : word = ("open" : Str) ∨ word = ("shut" : Str) := W1
  refine ⟨?_, ?_⟩
  · unfold s__law_of_comers bd
    dsimp only
    refine ⟨fun _ => ⟨by simp only [List.length_cons, List.length_nil]; omega, by simp only [List.length_cons, List.length_nil]; omega⟩, fun _ _ => ⟨fun _ => by omega, fun _ => ⟨fun q => ⟨⟨by simp only [List.length_cons, List.length_nil]; omega, by simp only [List.length_cons, List.length_nil]; omega⟩, ?_⟩, fun q => ⟨fun _ => ⟨by omega, by omega, by simp⟩, fun _ => ⟨fun _ => ⟨⟨by omega, by omega, by simp⟩, by rw [rp]; simp only [List.length_cons, List.length_nil]; omega⟩, fun _ _ => ⟨?_, by omega, by rw [List.length_map]; simp only [List.length_cons, List.length_nil]; omega⟩⟩⟩⟩⟩⟩
    · have e : w.fmod 5 = 0 ∨ w.fmod 5 = 1 ∨ w.fmod 5 = 2 ∨ w.fmod 5 = 3 ∨ w.fmod 5 = 4 := by omega
      rcases e with e | e | e | e | e <;> rw [e] <;> exact ⟨fun _ => ⟨by omega, by omega, by decide⟩, fun _ => by rw [List.length_map]; show _ + 1 ≤ 10000; omega⟩
    · have sh : word = ("shut" : Str) := w2.resolve_left (of_decide_eq_false q)
      have e2 := W3.2 sh
      dsimp only at e2
      intro x hx
      have := sub hx
      rw [e2] at this
      obtain ⟨n, _, rfl⟩ := List.mem_map.mp this
      rfl
  · by_cases q0 : w = 0
    · subst q0
      show SmC (ix (["Open", "wide", "", "shut "] : List Str) ((nums.length : Int).fmod 4), nums) ∧ HomC (ix (["Open", "wide", "", "shut "] : List Str) ((nums.length : Int).fmod 4), nums) ∧ Raw.gN row stands (ix (["Open", "wide", "", "shut "] : List Str) ((nums.length : Int).fmod 4), nums) = false
      have e : (nums.length : Int).fmod 4 = 0 ∨ (nums.length : Int).fmod 4 = 1 ∨ (nums.length : Int).fmod 4 = 2 ∨ (nums.length : Int).fmod 4 = 3 := by omega
      have key : ∀ x : Str, x ∈ Wc → x ∉ (["open", "shut"] : List Str) → SmC (x, nums) ∧ HomC (x, nums) ∧ Raw.gN row stands (x, nums) = false := fun x a b => ⟨⟨a, c2, c3⟩, ⟨fun e => absurd e (fun z => b (by rw [show x = ("open" : Str) from z]; exact List.mem_cons_self)), fun e => absurd e (fun z => b (by rw [show x = ("shut" : Str) from z]; exact List.mem_cons_of_mem _ List.mem_cons_self))⟩, no_word (.inl b)⟩
      rcases e with e | e | e | e <;> rw [e]
      · exact key "Open" (by decide +kernel) (by decide +kernel)
      · exact key "wide" (by decide +kernel) (by decide +kernel)
      · exact key "" (by decide +kernel) (by decide +kernel)
      · exact key "shut " (by decide +kernel) (by decide +kernel)
    · have d0 : decide (w = 0) = false := decide_eq_false q0
      by_cases q1 : w = 1
      · subst q1
        show SmC (word, cut nums none (some (-1))) ∧ HomC (word, cut nums none (some (-1))) ∧ Raw.gN row stands (word, cut nums none (some (-1))) = false
        refine ⟨⟨c1, by dsimp only; omega, fun x hx => c3 x (sub hx)⟩, ?_, no_word (.inr (by dsimp only; omega))⟩
        exact hom_sub W3 fun x hx => sub hx
      · have d1 : decide (w = 1) = false := decide_eq_false q1
        by_cases q2 : w = 2
        · subst q2
          show SmC (word, nums ++ cut nums none (some 1)) ∧ HomC (word, nums ++ cut nums none (some 1)) ∧ Raw.gN row stands (word, nums ++ cut nums none (some 1)) = false
          refine ⟨⟨c1, by dsimp only; rw [List.length_append]; omega, fun x hx => (List.mem_append.mp hx).elim (c3 x) fun z => c3 x (sub z)⟩, ?_, no_word (.inr (by dsimp only; rw [List.length_append]; omega))⟩
          exact hom_sub W3 fun x hx => (List.mem_append.mp hx).elim (fun z => z) fun z => sub z
        · have d2 : decide (w = 2) = false := decide_eq_false q2
          by_cases qo : word = ("open" : Str)
          · have ks : kind ≠ ("shut" : Str) := fun z => by
              have := (Hst z).1
              rw [qo] at this
              exact absurd this (by decide +kernel)
            obtain ⟨_, ps, b, c, d, _⟩ := Hop ks
            subst b
            rw [List.length_map] at W2 c2
            have bad : ∀ q : P2, SmP q → gF q false = false → SmC (word, cut (ps.map Sum.inl) none (some (-1)) ++ ([q].map Sum.inl : List PE)) ∧ HomC (word, cut (ps.map Sum.inl) none (some (-1)) ++ ([q].map Sum.inl : List PE)) ∧ Raw.gN row stands (word, cut (ps.map Sum.inl) none (some (-1)) ++ ([q].map Sum.inl : List PE)) = false := fun q hq hb => by
              have e : cut (ps.map Sum.inl) none (some (-1)) ++ ([q].map Sum.inl : List PE) = (ps.dropLast ++ [q]).map Sum.inl := by rw [cut_butlast, List.map_append, List.map_dropLast]
              rw [e, qo]
              refine ⟨⟨show ("open" : Str) ∈ Wc by decide +kernel, by dsimp only; rw [List.length_map, List.length_append, List.length_dropLast, List.length_singleton]; omega, fun x hx => ?_⟩, homP (by decide +kernel), no_open ?_⟩
              · obtain ⟨p, hp, rfl⟩ := List.mem_map.mp hx
                rcases List.mem_append.mp hp with z | z
                · exact gF_sm (d p (List.dropLast_subset _ z))
                · rw [List.mem_singleton.mp z]; exact hq
              · unfold gR
                rw [show ((ps.dropLast ++ [q]).all fun p => gF p false) = false by rw [List.all_eq_false]; exact ⟨q, by simp, by rw [hb]; decide⟩, Bool.false_and]
            have T : t__law_of_comers (word, ps.map Sum.inl) w = bd (ix ([[((0 : Int), (1 : Int))], [(-1, 3)], [(1, 2000)], [(2, 4)], [(1001, 1)]] : List (List P2)) (w.fmod 5)) fun v => cond (decide (v = [((0 : Int), (1 : Int))])) (word, ((repI v (((ps.map Sum.inl : List PE).length : Int))).map Sum.inl : List PE)) (word, cut (ps.map Sum.inl) none (some (-1)) ++ (v.map Sum.inl : List PE)) := by
              unfold t__law_of_comers bd
              dsimp only
              rw [d0, d1, d2, decide_eq_true qo]; rfl
            rw [T]
            have e : w.fmod 5 = 0 ∨ w.fmod 5 = 1 ∨ w.fmod 5 = 2 ∨ w.fmod 5 = 3 ∨ w.fmod 5 = 4 := by omega
            rcases e with e | e | e | e | e <;> rw [e]
            · show SmC (word, ((repI [((0 : Int), (1 : Int))] ((ps.map Sum.inl : List PE).length : Int)).map Sum.inl : List PE)) ∧ HomC (word, ((repI [((0 : Int), (1 : Int))] ((ps.map Sum.inl : List PE).length : Int)).map Sum.inl : List PE)) ∧ Raw.gN row stands (word, ((repI [((0 : Int), (1 : Int))] ((ps.map Sum.inl : List PE).length : Int)).map Sum.inl : List PE)) = false
              rw [qo, repI_one, List.length_map]
              refine ⟨⟨show ("open" : Str) ∈ Wc by decide +kernel, by dsimp only; rw [List.length_map, List.length_replicate]; omega, fun x hx => ?_⟩, homP (by decide +kernel), no_open ?_⟩
              · obtain ⟨p, hp, rfl⟩ := List.mem_map.mp hx
                rw [List.eq_of_mem_replicate hp]
                exact ⟨by unfold Sm; decide, by unfold Sm; decide⟩
              · unfold gR
                rw [show ((List.replicate (ps.length : Int).toNat ((0 : Int), (1 : Int))).filter fun p => !decide (p = ((0 : Int), (1 : Int)))) = [] by
                  rw [List.filter_eq_nil_iff]; intro p hp; rw [List.eq_of_mem_replicate hp]; decide]
                simp
            · exact bad (-1, 3) ⟨by unfold Sm; decide, by unfold Sm; decide⟩ (by decide +kernel)
            · exact bad (1, 2000) ⟨by unfold Sm; decide, by unfold Sm; decide⟩ (by decide +kernel)
            · exact bad (2, 4) ⟨by unfold Sm; decide, by unfold Sm; decide⟩ (by decide +kernel)
            · exact bad (1001, 1) ⟨by unfold Sm; decide, by unfold Sm; decide⟩ (by decide +kernel)
          · have qs : word = ("shut" : Str) := w2.resolve_left qo
            have ks : kind = ("shut" : Str) := Decidable.byContradiction fun z => qo (Hop z).1
            obtain ⟨_, ns, b, c, d, d2', d3⟩ := Hst ks
            subst b
            rw [List.length_map] at W2 c2
            have T : t__law_of_comers (word, ns.map Sum.inr) w = cond (decide (w.fmod 3 = 0)) (word, ((repI [(0 : Int)] ((ns.map Sum.inr : List PE).length : Int)).map Sum.inr : List PE)) (cond (decide (w.fmod 3 = 1) && decide (1 < ((ns.map Sum.inr : List PE).length : Int))) (word, (([5, 4] ++ repI [(0 : Int)] (((ns.map Sum.inr : List PE).length : Int) - 2)).map Sum.inr : List PE)) (cond (decide (w.fmod 3 = 1)) (word, ([(9 : Int)].map Sum.inr : List PE)) (word, (([(-1 : Int)] ++ (cut (ns.map Sum.inr : List PE) (some 1) none).map fun x => peI x + 2).map Sum.inr : List PE)))) := by
              unfold t__law_of_comers bd
              dsimp only
              rw [d0, d1, d2, decide_eq_false qo]; rfl
            have fin : ∀ xs : List Int, xs.length ≤ 14 → (∀ x ∈ xs, Sm x) → (minL xs < 0 ∨ xs.sum < 1 ∨ 8 < xs.sum) → SmC (word, (xs.map Sum.inr : List PE)) ∧ HomC (word, (xs.map Sum.inr : List PE)) ∧ Raw.gN row stands (word, (xs.map Sum.inr : List PE)) = false := fun xs hl hs hb => by
              rw [qs]
              refine ⟨⟨show ("shut" : Str) ∈ Wc by decide +kernel, by dsimp only; rw [List.length_map]; exact hl, fun x hx => ?_⟩, homI (by decide +kernel), no_shut ?_⟩
              · obtain ⟨n, hn, rfl⟩ := List.mem_map.mp hx
                exact hs n hn
              · unfold gC
                rw [show (decide (0 ≤ minL xs) && (decide (1 ≤ xs.sum) && decide (xs.sum ≤ 8))) = false by
                  rcases hb with z | z | z
                  · rw [show decide (0 ≤ minL xs) = false from decide_eq_false (by omega)]; rfl
                  · rw [show decide (1 ≤ xs.sum) = false from decide_eq_false (by omega)]; simp
                  · rw [show decide (xs.sum ≤ 8) = false from decide_eq_false (by omega)]; simp, Bool.false_and]
            rw [T, List.length_map]
            have e : w.fmod 3 = 0 ∨ w.fmod 3 = 1 ∨ w.fmod 3 = 2 := by omega
            have s0 : ∀ k : Nat, (List.replicate k (0 : Int)).sum = 0 := fun k => by induction k with
              | zero => rfl
              | succ n ih => rw [List.replicate_succ, List.sum_cons, ih]; rfl
            rcases e with e | e | e <;> rw [e]
            · show SmC (word, ((repI [(0 : Int)] (ns.length : Int)).map Sum.inr : List PE)) ∧ HomC (word, ((repI [(0 : Int)] (ns.length : Int)).map Sum.inr : List PE)) ∧ Raw.gN row stands (word, ((repI [(0 : Int)] (ns.length : Int)).map Sum.inr : List PE)) = false
              rw [repI_one]
              exact fin _ (by rw [List.length_replicate]; omega) (fun x hx => by rw [List.eq_of_mem_replicate hx]; unfold Sm; decide) (.inr (.inl (by rw [s0]; decide)))
            · by_cases m : 1 < (ns.length : Int)
              · rw [decide_eq_true m]
                show SmC (word, (([5, 4] ++ repI [(0 : Int)] ((ns.length : Int) - 2)).map Sum.inr : List PE)) ∧ HomC (word, (([5, 4] ++ repI [(0 : Int)] ((ns.length : Int) - 2)).map Sum.inr : List PE)) ∧ Raw.gN row stands (word, (([5, 4] ++ repI [(0 : Int)] ((ns.length : Int) - 2)).map Sum.inr : List PE)) = false
                rw [repI_one]
                refine fin _ (by rw [List.length_append, List.length_replicate]; simp only [List.length_cons, List.length_nil]; omega) (fun x hx => ?_) (.inr (.inr (by rw [List.sum_append, s0]; decide)))
                rcases List.mem_append.mp hx with z | z
                · simp only [List.mem_cons, List.not_mem_nil, or_false] at z
                  rcases z with rfl | rfl <;> unfold Sm <;> decide
                · rw [List.eq_of_mem_replicate z]; unfold Sm; decide
              · rw [decide_eq_false m]
                show SmC (word, ([(9 : Int)].map Sum.inr : List PE)) ∧ HomC (word, ([(9 : Int)].map Sum.inr : List PE)) ∧ Raw.gN row stands (word, ([(9 : Int)].map Sum.inr : List PE)) = false
                exact fin _ (by decide) (fun x hx => by rw [List.mem_singleton.mp hx]; unfold Sm; decide) (.inr (.inr (by decide)))
            · show SmC (word, (([(-1 : Int)] ++ (cut (ns.map Sum.inr : List PE) (some 1) none).map fun x => peI x + 2).map Sum.inr : List PE)) ∧ HomC (word, (([(-1 : Int)] ++ (cut (ns.map Sum.inr : List PE) (some 1) none).map fun x => peI x + 2).map Sum.inr : List PE)) ∧ Raw.gN row stands (word, (([(-1 : Int)] ++ (cut (ns.map Sum.inr : List PE) (some 1) none).map fun x => peI x + 2).map Sum.inr : List PE)) = false
              refine fin _ (by rw [List.length_append, List.length_map, lt, List.length_map]; simp only [List.length_cons, List.length_nil]; omega) (fun x hx => ?_) (.inl ?_)
              · rcases List.mem_append.mp hx with z | z
                · rw [List.mem_singleton.mp z]; unfold Sm; decide
                · obtain ⟨y, hy, rfl⟩ := List.mem_map.mp z
                  obtain ⟨n, hn, rfl⟩ := List.mem_map.mp (sub hy)
                  have := d n hn
                  show Sm (n + 2)
                  unfold Sm; omega
              · have := minL_le (xs := [(-1 : Int)] ++ (cut (ns.map Sum.inr : List PE) (some 1) none).map fun x => peI x + 2) (x := -1) (by simp)
                omega
theorem no_len {lines : List RLine} {stands : List RStand} {c : RCom} (h : lines.length < 1 ∨ 8 < lines.length ∨ stands.length < 1 ∨ 12 < stands.length) : Raw.gN lines stands c = false := by
  unfold Raw.gN
  rw [show ((decide ((1 : Int) ≤ (lines.length : Int)) && decide ((lines.length : Int) ≤ 8)) && (decide ((1 : Int) ≤ (stands.length : Int)) && decide ((stands.length : Int) ≤ 12))) = false by
    rcases h with h | h | h | h
    · rw [show decide ((1 : Int) ≤ (lines.length : Int)) = false from decide_eq_false (by omega)]; rfl
    · rw [show decide ((lines.length : Int) ≤ 8) = false from decide_eq_false (by omega)]; simp
    · rw [show decide ((1 : Int) ≤ (stands.length : Int)) = false from decide_eq_false (by omega)]; simp
    · rw [show decide ((stands.length : Int) ≤ 12) = false from decide_eq_false (by omega)]; simp, Bool.false_and]
theorem no_used {lines : List RLine} {stands : List RStand} {c : RCom} {i : Int} (h0 : 0 ≤ i) (h1 : i < lines.length) (h : ∀ s ∈ stands, s.1 ≠ i) : Raw.gN lines stands c = false := by
  have : decide (unused lines stands = []) = false := by
    refine decide_eq_false fun z => ?_
    unfold unused at z
    have := List.filter_eq_nil_iff.mp z i (mem_rangeI.mpr ⟨h0, h1⟩)
    simp only [Bool.not_eq_true', decide_eq_false_iff_not, Decidable.not_not] at this
    obtain ⟨s, hs, e⟩ := List.mem_map.mp this
    exact h s hs e
  unfold Raw.gN
  rw [this, Bool.false_and, Bool.and_false, Bool.and_false, Bool.and_false]
def Bad (N : RNet) : Prop := SmN N ∧ HomC N.2.2 ∧ Raw.gN N.1 N.2.1 N.2.2 = false
theorem whole_no {kind : Str} {N : RNet} (h : GdN kind N) (st : Std.Stm) : s__law_of_whole st N ∧ Bad (t__law_of_whole st N).1 := by
  have S := h.sm
  have l1 := h.l1; have l4 := h.l4; have m1 := h.m1; have m7 := h.m7; have m3 := h.m3
  obtain ⟨W1, W2, W3⟩ := h.w
  obtain ⟨b0, b1⟩ := Std.take_b (s := st) (most := 5) (by decide)
  have rp : ∀ {α : Type} (x : α) (k : Int), (repI [x] k).length = k.toNat := fun x k => by rw [repI_one, List.length_replicate]
  have i0 : InB N.1.length 0 := inB_nat (by decide) (by omega)
  have i1 : InB N.2.2.2.length 0 := inB_nat (by decide) (by omega)
  have gs := h.gs
  obtain ⟨row, stands, word, nums⟩ := N
  dsimp only at S l1 l4 m1 m7 m3 W1 W2 W3 i0 i1 gs
  obtain ⟨Sa, Sb, Sc, Sd, Se⟩ := S
  dsimp only at Sa Sb Sc Sd Se
  obtain ⟨e1, e2, e3⟩ := Se
  dsimp only at e1 e2 e3
  have fx : SmS ((0 : Int), ((1 : Int), (1 : Int)), [((0 : Int), ((1 : Int), (1 : Int)))]) := ⟨by unfold Sm; decide, ⟨by unfold Sm; decide, by unfold Sm; decide⟩, by decide, fun w hw => by rw [List.mem_singleton.mp hw]; exact ⟨by unfold Sm; decide, by unfold Sm; decide, by unfold Sm; decide⟩⟩
  have more : ∀ k : Int, ∀ x ∈ nums ++ repI [ix nums 0] k, x ∈ nums := fun k x hx => (List.mem_append.mp hx).elim id fun z => by
    rw [repI_one] at z
    rw [List.eq_of_mem_replicate z]
    exact ix_mem i1
  refine ⟨?_, ?_⟩
  · unfold s__law_of_whole bd
    dsimp only
    refine fun _ _ => ⟨fun _ => ⟨⟨by omega, by omega⟩, by rw [rangeI_len]; omega, by rw [List.length_map, rangeI_len]; omega, i0, ⟨by omega, by omega, by simp⟩, by rw [rp]; omega, i1, ⟨by omega, by omega, by simp⟩, by rw [rp]; omega⟩, fun _ => ⟨fun _ => ⟨⟨by omega, by omega, by simp⟩, by rw [rp]; omega, i1, ⟨by omega, by omega, by simp⟩, by rw [rp]; omega⟩, fun _ => ⟨i0, by simp only [List.length_cons, List.length_nil]; omega⟩⟩⟩
  · unfold t__law_of_whole bd
    dsimp only
    generalize (Std.t__law_take st 5).1 = w at b0 b1 ⊢
    have hw : w = 0 ∨ w = 1 ∨ w = 2 ∨ w = 3 ∨ w = 4 := by omega
    rcases hw with rfl | rfl | rfl | rfl | rfl
    · show Bad (([] : List RLine), stands, word, nums)
      exact ⟨⟨by simp, fun l hl => (nomatch hl), Sc, Sd, e1, e2, e3⟩, W3, no_len (.inl (by simp))⟩
    · show Bad (row ++ repI [ix row 0] (9 - (row.length : Int)), stands ++ (rangeI 0 (9 - (row.length : Int))).map (fun i => (((row.length : Int) + i), ((1 : Int), (1 : Int)), [((0 : Int), ((1 : Int), (1 : Int)))])), word, nums ++ repI [ix nums 0] (9 - (row.length : Int)))
      refine ⟨⟨by dsimp only; rw [List.length_append, rp]; omega, fun l hl => ?_, by dsimp only; rw [List.length_append, List.length_map, rangeI_len]; omega, fun s hs => ?_, e1, by dsimp only; rw [List.length_append, rp]; omega, fun x hx => e3 x (more _ x hx)⟩, hom_sub W3 (more _), no_len (.inr (.inl (by rw [List.length_append, rp]; omega)))⟩
      · rcases List.mem_append.mp hl with z | z
        · exact Sb l z
        · rw [repI_one] at z
          rw [List.eq_of_mem_replicate z]
          exact Sb _ (ix_mem i0)
      · rcases List.mem_append.mp hs with z | z
        · exact Sd s z
        · obtain ⟨i, hi, rfl⟩ := List.mem_map.mp z
          have := mem_rangeI.mp hi
          exact ⟨by show Sm ((row.length : Int) + i); unfold Sm; omega, fx.2.1, fx.2.2.1, fx.2.2.2⟩
    · show Bad (row, stands ++ repI [((0 : Int), ((1 : Int), (1 : Int)), [((0 : Int), ((1 : Int), (1 : Int)))])] (13 - (stands.length : Int)), word, nums ++ repI [ix nums 0] (13 - (stands.length : Int)))
      refine ⟨⟨by dsimp only; omega, Sb, by dsimp only; rw [List.length_append, rp]; omega, fun s hs => ?_, e1, by dsimp only; rw [List.length_append, rp]; omega, fun x hx => e3 x (more _ x hx)⟩, hom_sub W3 (more _), no_len (.inr (.inr (.inr (by rw [List.length_append, rp]; omega))))⟩
      rcases List.mem_append.mp hs with z | z
      · exact Sd s z
      · rw [repI_one] at z
        rw [List.eq_of_mem_replicate z]
        exact fx
    · show Bad (row ++ [ix row 0], stands, word, nums)
      refine ⟨⟨by dsimp only; rw [List.length_append, List.length_singleton]; omega, fun l hl => (List.mem_append.mp hl).elim (Sb l) fun z => by rw [List.mem_singleton.mp z]; exact Sb _ (ix_mem i0), Sc, Sd, e1, e2, e3⟩, W3, no_used (i := (row.length : Int)) (by omega) (by rw [List.length_append, List.length_singleton]; omega) fun s hs => ?_⟩
      have := (gs s hs).l1
      omega
    · show Bad (row, ([] : List RStand), word, (([] : List Int).map Sum.inr : List PE))
      exact ⟨⟨by dsimp only; omega, Sb, by simp, fun s hs => (nomatch hs), e1, by simp, fun x hx => (nomatch hx)⟩, hom_sub W3 (fun x hx => (nomatch hx)), no_len (.inr (.inr (.inl (by simp))))⟩
theorem zip_begun (ns : List Int) (stands : List RStand) (i : Int) : ((((((ns.map Sum.inr : List PE).zip stands).filter fun x => decide (x.2.1 = i)).map fun x => x.1)).map peI).sum = begun stands ns i := by
  unfold begun
  rw [List.map_map]
  induction ns generalizing stands with
  | nil => rfl
  | cons n r ih =>
    cases stands with
    | nil => rfl
    | cons s t =>
      have := ih t
      rw [List.map_cons, List.zip_cons_cons, List.zip_cons_cons, List.filter_cons, List.filter_cons]
      dsimp only
      by_cases q : s.1 = i
      · rw [if_pos (decide_eq_true q), if_pos (decide_eq_true q), List.map_cons, List.map_cons, List.sum_cons, List.sum_cons, this]; rfl
      · rw [if_neg (by simp [q]), if_neg (by simp [q])]; exact this
theorem begun_two (ns : List Int) (stands : List RStand) (i : Int) : begun stands (ns.map fun n => 2 * n) i = 2 * begun stands ns i := by
  unfold begun
  induction ns generalizing stands with
  | nil => rfl
  | cons n r ih =>
    cases stands with
    | nil => rfl
    | cons s t =>
      have := ih t
      rw [List.map_cons, List.zip_cons_cons, List.zip_cons_cons, List.filter_cons, List.filter_cons]
      dsimp only
      by_cases q : s.1 = i
      · rw [if_pos (decide_eq_true q), if_pos (decide_eq_true q), List.map_cons, List.map_cons, List.sum_cons, List.sum_cons, this]; omega
      · rw [if_neg (by simp [q]), if_neg (by simp [q])]; exact this
theorem begun_nn (ns : List Int) (stands : List RStand) (i : Int) (h : ∀ n ∈ ns, 0 ≤ n) : 0 ≤ begun stands ns i := by
  unfold begun
  induction ns generalizing stands with
  | nil => exact Int.le_refl 0
  | cons n r ih =>
    cases stands with
    | nil => exact Int.le_refl 0
    | cons s t =>
      have := ih t fun m hm => h m (List.mem_cons_of_mem _ hm)
      have := h n List.mem_cons_self
      rw [List.zip_cons_cons, List.filter_cons]
      dsimp only
      by_cases q : s.1 = i
      · rw [if_pos (decide_eq_true q), List.map_cons, List.sum_cons]; dsimp only; omega
      · rw [if_neg (by simp [q])]; assumption
theorem begun_some (ns : List Int) (stands : List RStand) (h : ∀ n ∈ ns, 0 ≤ n) (hl : ns.length = stands.length) (hs : 1 ≤ ns.sum) : ∃ s ∈ stands, 1 ≤ begun stands ns s.1 := by
  induction ns generalizing stands with
  | nil => simp at hs
  | cons n r ih =>
    cases stands with
    | nil => simp at hl
    | cons s t =>
      have hn := h n List.mem_cons_self
      have hr : ∀ m ∈ r, 0 ≤ m := fun m hm => h m (List.mem_cons_of_mem _ hm)
      have st : ∀ i, begun (s :: t) (n :: r) i = (if s.1 = i then n else 0) + begun t r i := fun i => by
        unfold begun
        rw [List.zip_cons_cons, List.filter_cons]
        dsimp only
        by_cases q : s.1 = i
        · rw [if_pos (decide_eq_true q), if_pos q, List.map_cons, List.sum_cons]
        · rw [if_neg (by simp [q]), if_neg q, Int.zero_add]
      by_cases q : 1 ≤ n
      · refine ⟨s, List.mem_cons_self, ?_⟩
        rw [st, if_pos rfl]
        have := begun_nn r t s.1 hr
        omega
      · rw [List.sum_cons] at hs
        obtain ⟨y, hy, z⟩ := ih t hr (by simpa using hl) (by omega)
        refine ⟨y, List.mem_cons_of_mem _ hy, ?_⟩
        rw [st]
        split <;> omega
theorem enum_mem {α : Type} {A B : List α} {x : α} : ((A.length : Int), x) ∈ enumI (A ++ [x] ++ B) := by
  have e : (enumI (A ++ [x] ++ B))[A.length]? = some ((A.length : Int), x) := by
    unfold enumI rangeI
    rw [List.getElem?_zip_eq_some]
    refine ⟨?_, by simp⟩
    rw [List.getElem?_map, List.getElem?_range (by simp; omega)]
    simp
  exact List.mem_of_getElem? e
theorem gC_room {A B : List RLine} {l : RLine} {stands : List RStand} {ns : List Int} (h0 : l.2.2.1 ≠ 0) (h1 : l.2.2.1 < begun stands ns (A.length : Int)) : gC (A ++ [l] ++ B) stands ns = false := by
  unfold gC
  rw [show ((enumI (A ++ [l] ++ B)).all fun z => decide (z.2.2.2.1 = 0) || decide (begun stands ns z.1 ≤ z.2.2.2.1)) = false by
    rw [List.all_eq_false]
    refine ⟨_, enum_mem, ?_⟩
    dsimp only
    rw [decide_eq_false h0, decide_eq_false (by omega : ¬ begun stands ns (A.length : Int) ≤ l.2.2.1)]
    decide]
  simp
theorem gC_lose {lines : List RLine} {stands : List RStand} {ns : List Int} {l : RLine} (hl : l ∈ lines) (h : l.2.2.2 = ("lose" : Str)) : gC lines stands ns = false := by
  unfold gC
  rw [show decide ((lines.filter fun l => decide (l.2.2.2 = ("lose" : Str))) = []) = false from decide_eq_false fun z => by
    have := List.filter_eq_nil_iff.mp z l hl
    simp [h] at this]
  simp
theorem gC_sum {lines : List RLine} {stands : List RStand} {ns : List Int} {s : RStand} (hs : s ∈ stands) (h : Std.sumQ (sharesQ s.2.2) ≠ 1) : gC lines stands ns = false := by
  unfold gC
  rw [show (stands.all fun s => decide (Std.sumQ (sharesQ s.2.2) = 1)) = false by
    rw [List.all_eq_false]; exact ⟨s, hs, by simp [h]⟩]
  simp
theorem gR_tail {lines : List RLine} {ps : List P2} (h : cond (decide (maxL (lines.map fun l => l.2.2.1) = 0)) (decide ((lines.filter fun l => !decide (l.2.1 = ((0 : Int), (1 : Int)))) = [])) (decide (0 < minL (lines.map fun l => l.2.2.1))) = false) : gR lines ps = false := by
  unfold gR; rw [h]; simp
theorem gR_mix {lines : List RLine} {ps : List P2} {a b : RLine} (ha : a ∈ lines) (hb : b ∈ lines) (h1 : 0 < a.2.2.1) (h2 : b.2.2.1 ≤ 0) : gR lines ps = false := by
  refine gR_tail ?_
  have x : a.2.2.1 ≤ maxL (lines.map fun l => l.2.2.1) := le_maxL (List.mem_map.mpr ⟨a, ha, rfl⟩)
  have y : minL (lines.map fun l => l.2.2.1) ≤ b.2.2.1 := minL_le (List.mem_map.mpr ⟨b, hb, rfl⟩)
  rw [show decide (maxL (lines.map fun l => l.2.2.1) = 0) = false from decide_eq_false (by omega)]
  exact decide_eq_false (by omega)
theorem gR_more {lines : List RLine} {ps : List P2} {a : RLine} (ha : a ∈ lines) (h0 : ∀ l ∈ lines, l.2.2.1 = 0) (h : a.2.1 ≠ ((0 : Int), (1 : Int))) : gR lines ps = false := by
  refine gR_tail ?_
  have ne : (lines.map fun l => l.2.2.1) ≠ [] := fun z => by rw [List.map_eq_nil_iff] at z; rw [z] at ha; cases ha
  obtain ⟨l, hl, e⟩ := List.mem_map.mp (maxL_mem ne)
  rw [show decide (maxL (lines.map fun l => l.2.2.1) = 0) = true from decide_eq_true (by rw [← e]; exact h0 l hl)]
  refine decide_eq_false fun z => ?_
  have := List.filter_eq_nil_iff.mp z a ha
  simp [h] at this
theorem in_ABC {α : Type} {A B : List α} {x y : α} (h : x ∈ A ++ [y] ++ B) : x ∈ A ∨ x = y ∨ x ∈ B := by
  rcases List.mem_append.mp h with z | z
  · rcases List.mem_append.mp z with z | z
    · exact .inl z
    · exact .inr (.inl (List.mem_singleton.mp z))
  · exact .inr (.inr z)
theorem kind_no {kind : Str} {N : RNet} (h : GdN kind N) (hk : kind = ("wide" : Str) ∨ kind = ("tight" : Str) ∨ kind = ("shut" : Str)) (st : Std.Stm) : s__law_by_kind st N kind ∧ Bad (t__law_by_kind st N kind).1 := by
  have S := h.sm
  have l1 := h.l1; have l4 := h.l4; have m1 := h.m1; have m7 := h.m7; have m3 := h.m3
  obtain ⟨W1, W2, W3⟩ := h.w
  have gl := h.gl; have gs := h.gs; have Hop := h.op; have Hst := h.st
  obtain ⟨row, stands, word, nums⟩ := N
  dsimp only at S l1 l4 m1 m7 m3 W1 W2 W3 gl gs Hop Hst
  obtain ⟨Sa, Sb, Sc, Sd, Se⟩ := S
  dsimp only at Sa Sb Sc Sd Se
  obtain ⟨e1, e2, e3⟩ := Se
  dsimp only at e1 e2 e3
  obtain ⟨t0, t1⟩ := Std.take_b (s := st) (most := (row.length : Int)) (by omega)
  unfold s__law_by_kind t__law_by_kind bd
  dsimp only
  generalize (Std.t__law_take st (row.length : Int)).1 = at_ at t0 t1 ⊢
  generalize (Std.t__law_take st (row.length : Int)).2 = st2 at ⊢
  obtain ⟨b0, b1⟩ := Std.take_b (s := st2) (most := 2) (by decide)
  obtain ⟨c0, c1⟩ := Std.take_b (s := st2) (most := 3) (by decide)
  generalize (Std.t__law_take st2 2).1 = two at b0 b1 ⊢
  generalize (Std.t__law_take st2 3).1 = way at c0 c1 ⊢
  have i0 : InB row.length at_ := inB_nat t0 (by omega)
  have hz := ix_mem i0
  generalize hz3 : ix row at_ = z3 at hz ⊢
  have gz := gl z3 hz
  have sz := Sb z3 hz
  have eA : ∀ k : Int, 0 ≤ k → k < row.length → cut row none (some k) = row.take k.toNat ∧ cut row (some (k + 1)) none = row.drop (k + 1).toNat := fun k h0 h1 => ⟨cut_to h0 (by omega), cut_from (by omega) (by omega)⟩
  have lenA : ∀ k : Int, 0 ≤ k → k < row.length → (cut row none (some k)).length = k.toNat ∧ (cut row (some (k + 1)) none).length = row.length - (k + 1).toNat := fun k h0 h1 => by
    obtain ⟨a, b⟩ := eA k h0 h1
    rw [a, b, List.length_take, List.length_drop]; omega
  have subR : ∀ {lo hi : Option Int} {x : RLine}, x ∈ cut row lo hi → x ∈ row := fun h => List.mem_of_mem_drop (List.mem_of_mem_take h)
  obtain ⟨lA, lB⟩ := lenA at_ t0 t1
  have smABC : ∀ (k : Int) (y : RLine), SmL y → ∀ x ∈ cut row none (some k) ++ [y] ++ cut row (some (k + 1)) none, SmL x := fun k y hy x hx => by
    rcases in_ABC hx with z | rfl | z
    · exact Sb x (subR z)
    · exact hy
    · exact Sb x (subR z)
  have lenABC : ∀ (k : Int) (y : RLine), 0 ≤ k → k < row.length → (cut row none (some k) ++ [y] ++ cut row (some (k + 1)) none).length = row.length := fun k y h0 h1 => by
    obtain ⟨a, b⟩ := lenA k h0 h1
    rw [List.length_append, List.length_append, a, b, List.length_singleton]; omega
  have mid : ∀ (k : Int) (y : RLine), y ∈ cut row none (some k) ++ [y] ++ cut row (some (k + 1)) none := fun k y => by simp
  rcases hk with rfl | rfl | rfl
  · -- wide
    obtain ⟨o1, ps, o2, o3, o4, _⟩ := Hop (by decide +kernel)
    subst o2
    refine ⟨⟨by omega, i0, fun _ => ⟨by exact inB_nat b0 b1, ?_, ?_⟩, fun z => absurd z (by decide +kernel)⟩, ?_⟩
    · rw [lA]; simp only [List.length_singleton]; omega
    · rw [List.length_append, lA, lB]; simp only [List.length_singleton]; omega
    · rw [show decide (("wide" : Str) = ("wide" : Str)) = true by decide +kernel]
      show Bad (cut row none (some at_) ++ [cond (decide ((row.length : Int) = 1)) (z3.1, ((1 : Int), (2 : Int)), 0, ("" : Str)) (ix [(z3.1, ((1 : Int), (2 : Int)), 0, ("" : Str)), (z3.1, z3.2.1, 3, ("skip" : Str))] two)] ++ cut row (some (at_ + 1)) none, stands, word, ps.map Sum.inl)
      have r0 : ∀ l ∈ row, l.2.2.1 = 0 := fun l hl => ((gl l hl).rn (by decide +kernel)).1
      have A1 : Bad (cut row none (some at_) ++ [(z3.1, ((1 : Int), (2 : Int)), 0, ("" : Str))] ++ cut row (some (at_ + 1)) none, stands, word, ps.map Sum.inl) := by
        refine ⟨⟨by dsimp only; rw [lenABC _ _ t0 t1]; omega, smABC _ _ ⟨sz.1, sz.2.1, show SmP (1, 2) from ⟨by unfold Sm; decide, by unfold Sm; decide⟩, show Sm 0 by unfold Sm; decide, show ("" : Str) ∈ Wl by decide +kernel⟩, Sc, Sd, e1, e2, e3⟩, W3, ?_⟩
        dsimp only
        rw [o1]
        refine no_open (gR_more (mid _ _) (fun l hl => ?_) (show ((1 : Int), (2 : Int)) ≠ ((0 : Int), (1 : Int)) by decide))
        rcases in_ABC hl with z | rfl | z
        · exact r0 l (subR z)
        · rfl
        · exact r0 l (subR z)
      by_cases q : (row.length : Int) = 1
      · rw [decide_eq_true q]; exact A1
      · rw [decide_eq_false q]
        have e : two = 0 ∨ two = 1 := by omega
        rcases e with rfl | rfl
        · exact A1
        · show Bad (cut row none (some at_) ++ [(z3.1, z3.2.1, 3, ("skip" : Str))] ++ cut row (some (at_ + 1)) none, stands, word, ps.map Sum.inl)
          refine ⟨⟨by dsimp only; rw [lenABC _ _ t0 t1]; omega, smABC _ _ ⟨sz.1, sz.2.1, sz.2.2.1, show Sm 3 by unfold Sm; decide, show ("skip" : Str) ∈ Wl by decide +kernel⟩, Sc, Sd, e1, e2, e3⟩, W3, ?_⟩
          dsimp only
          rw [o1]
          obtain ⟨b, hb, hb2⟩ : ∃ b, (b ∈ cut row none (some at_) ∨ b ∈ cut row (some (at_ + 1)) none) ∧ b ∈ row := by
            by_cases k : 0 < (cut row none (some at_)).length
            · have := List.getElem_mem k
              exact ⟨_, .inl this, subR this⟩
            · have k2 : 0 < (cut row (some (at_ + 1)) none).length := by omega
              have := List.getElem_mem k2
              exact ⟨_, .inr this, subR this⟩
          refine no_open (gR_mix (mid _ _) (b := b) ?_ (show (0 : Int) < 3 by decide) (by rw [r0 b hb2]; exact Int.le_refl 0))
          rcases hb with z | z
          · exact List.mem_append.mpr (.inl (List.mem_append.mpr (.inl z)))
          · exact List.mem_append.mpr (.inr z)
  · -- tight
    obtain ⟨o1, ps, o2, o3, o4, _⟩ := Hop (by decide +kernel)
    subst o2
    have dw : decide (("tight" : Str) = ("wide" : Str)) = false := by decide +kernel
    have dt : decide (("tight" : Str) = ("tight" : Str)) = true := by decide +kernel
    refine ⟨⟨by omega, i0, fun z => absurd z (by decide +kernel), fun _ => ⟨fun _ => ⟨by simp only [List.length_singleton]; omega, by simp only [List.length_singleton]; omega, by rw [W2]; show _ + 1 ≤ 10000; omega⟩, fun z => absurd z (by decide +kernel)⟩⟩, ?_⟩
    rw [dw, dt]
    show Bad (row ++ [(z3.1, z3.2.1, 0, ("" : Str))], stands ++ [((row.length : Int), ((1 : Int), (1 : Int)), [])], ("open" : Str), ps.map Sum.inl ++ ([((1 : Int), (2 : Int))].map Sum.inl : List PE))
    rw [← List.map_append]
    rw [List.length_map] at W2 e2
    refine ⟨⟨by dsimp only; rw [List.length_append, List.length_singleton]; omega, fun l hl => ?_, by dsimp only; rw [List.length_append, List.length_singleton]; omega, fun s hs => ?_, show ("open" : Str) ∈ Wc by decide +kernel, by dsimp only; rw [List.length_map, List.length_append, List.length_singleton]; omega, fun x hx => ?_⟩, homP (by decide +kernel), no_open (gR_mix (a := z3) (b := (z3.1, z3.2.1, 0, ("" : Str))) (List.mem_append.mpr (.inl hz)) (by simp) (by have := (gz.rt rfl).1; omega) (Int.le_refl 0))⟩
    · rcases List.mem_append.mp hl with z | z
      · exact Sb l z
      · rw [List.mem_singleton.mp z]
        exact ⟨sz.1, sz.2.1, sz.2.2.1, show Sm 0 by unfold Sm; decide, show ("" : Str) ∈ Wl by decide +kernel⟩
    · rcases List.mem_append.mp hs with z | z
      · exact Sd s z
      · rw [List.mem_singleton.mp z]
        exact ⟨show Sm (row.length : Int) by unfold Sm; omega, show SmP (1, 1) from ⟨by unfold Sm; decide, by unfold Sm; decide⟩, by simp, fun w hw => (nomatch hw)⟩
    · obtain ⟨p, hp, rfl⟩ := List.mem_map.mp hx
      rcases List.mem_append.mp hp with z | z
      · exact gF_sm (o4 p z)
      · rw [List.mem_singleton.mp z]; exact ⟨by unfold Sm; decide, by unfold Sm; decide⟩
  · -- shut
    obtain ⟨o1, ns, o2, o3, o4, o5, o6⟩ := Hst rfl
    subst o2
    have dw : decide (("shut" : Str) = ("wide" : Str)) = false := by decide +kernel
    have dt : decide (("shut" : Str) = ("tight" : Str)) = false := by decide +kernel
    have i1 : InB stands.length 0 := inB_nat (by decide) (by omega)
    have bg : ((rangeI 0 (row.length : Int)).map fun i => ((((((ns.map Sum.inr : List PE).zip stands).filter fun x => decide (x.2.1 = i)).map fun x => x.1)).map peI).sum) = (rangeI 0 (row.length : Int)).map (begun stands ns) := List.map_congr_left fun i _ => zip_begun ns stands i
    have bl : ((rangeI 0 (row.length : Int)).map (begun stands ns)).length = row.length := by rw [List.length_map, rangeI_len]; omega
    have bne : (rangeI 0 (row.length : Int)).map (begun stands ns) ≠ [] := fun z => by rw [z] at bl; simp at bl; omega
    have mm := maxL_mem bne
    obtain ⟨fx, fe⟩ := DrC.fst_get mm
    have nn : ∀ n ∈ ns, 0 ≤ n := fun n hn => (o4 n hn).1
    have mx : 1 ≤ maxL ((rangeI 0 (row.length : Int)).map (begun stands ns)) := by
      obtain ⟨s, hs, z⟩ := begun_some ns stands nn (by rw [o3]) o5
      have := le_maxL (xs := (rangeI 0 (row.length : Int)).map (begun stands ns)) (List.mem_map.mpr ⟨s.1, mem_rangeI.mpr ⟨(gs s hs).l0, (gs s hs).l1⟩, rfl⟩)
      omega
    simp only [bg]
    generalize hb : (rangeI 0 (row.length : Int)).map (begun stands ns) = bs at *
    generalize hf : fstI bs (maxL bs) = ft at *
    have ib : InB bs.length (ft : Int) := inB_nat (by omega) (by omega)
    have ir : InB row.length (ft : Int) := inB_nat (by omega) (by omega)
    have bx : ix bs (ft : Int) = maxL bs := by
      obtain ⟨q, e⟩ := ix_nat (xs := bs) (i := (ft : Int)) (by omega) (by omega)
      rw [e]
      simpa using fe
    have bv : begun stands ns (ft : Int) = maxL bs := by
      rw [← fe]
      subst hb
      rw [List.getElem_map, rangeI_get]
      congr 1
      omega
    obtain ⟨lA2, lB2⟩ := lenA (ft : Int) (by omega) (by omega)
    refine ⟨⟨by omega, i0, fun z => absurd z (by decide +kernel), fun _ => ⟨fun z => absurd z (by decide +kernel), fun _ => ⟨fun _ => ⟨i1, i1, ?_⟩, fun _ => ⟨fun _ => ⟨?_, ?_⟩, fun _ => ⟨⟨by omega, by omega⟩, fun i hi => ⟨?_, ?_⟩, ?_, bne, mm, ib, fun _ => ⟨fun x hx => ?_, ?_, ib⟩, ir, ?_, ?_, ?_⟩⟩⟩⟩⟩, ?_⟩
    · rw [cut_tail, List.length_drop]; simp only [List.length_singleton]; omega
    · rw [lA]; simp only [List.length_singleton]; omega
    · rw [List.length_append, lA, lB]; simp only [List.length_singleton]; omega
    · rw [List.length_zip]; omega
    · intro x hx
      obtain ⟨y, hy, rfl⟩ := List.mem_map.mp hx
      have := (List.of_mem_zip (List.mem_filter.mp hy).1).1
      obtain ⟨n, _, e⟩ := List.mem_map.mp this
      rw [← e]; rfl
    · rw [rangeI_len]; omega
    · obtain ⟨n, hn, rfl⟩ := List.mem_map.mp hx
      have := o4 n hn
      refine ⟨rfl, ?_⟩
      show mulOk 2 n = true
      have : n = 0 ∨ n = 1 ∨ n = 2 ∨ n = 3 ∨ n = 4 ∨ n = 5 ∨ n = 6 ∨ n = 7 ∨ n = 8 := by omega
      rcases this with rfl | rfl | rfl | rfl | rfl | rfl | rfl | rfl | rfl <;> decide +kernel
    · omega
    · cases decide (ix bs (ft : Int) = 1) with
      | true => show InB (setI bs (ft : Int) 2).length (ft : Int); rw [setI_len]; exact ib
      | false => exact ib
    · rw [lA2]; simp only [List.length_singleton]; omega
    · rw [List.length_append, lA2, lB2]; simp only [List.length_singleton]; omega
    · rw [dw, dt]
      have hw : way = 0 ∨ way = 1 ∨ way = 2 := by omega
      rw [List.length_map] at W2 e2
      rcases hw with rfl | rfl | rfl
      · show Bad (row, [((ix stands 0).1, (ix stands 0).2.1, [((0 : Int), ((1 : Int), (2 : Int)))])] ++ cut stands (some 1) none, word, ns.map Sum.inr)
        have s0 := Sd _ (ix_mem i1)
        refine ⟨⟨by dsimp only; omega, Sb, by dsimp only; rw [List.length_append, cut_tail, List.length_drop, List.length_singleton]; omega, fun s hs => ?_, e1, by dsimp only; rw [List.length_map]; exact e2, e3⟩, W3, ?_⟩
        · rcases List.mem_append.mp hs with z | z
          · rw [List.mem_singleton.mp z]
            exact ⟨s0.1, s0.2.1, by simp, fun w hw => by rw [List.mem_singleton.mp hw]; exact ⟨by unfold Sm; decide, show SmP (1, 2) from ⟨by unfold Sm; decide, by unfold Sm; decide⟩⟩⟩
          · exact Sd s (List.mem_of_mem_drop (List.mem_of_mem_take z))
        · dsimp only
          rw [o1]
          refine no_shut (gC_sum (s := ((ix stands 0).1, (ix stands 0).2.1, [((0 : Int), ((1 : Int), (2 : Int)))])) (by simp) ?_)
          show Std.sumQ [mkq ((1 : Int), (2 : Int))] ≠ 1
          decide +kernel
      · show Bad (cut row none (some at_) ++ [(z3.1, z3.2.1, 9, ("lose" : Str))] ++ cut row (some (at_ + 1)) none, stands, word, ns.map Sum.inr)
        refine ⟨⟨by dsimp only; rw [lenABC _ _ t0 t1]; omega, smABC _ _ ?_, Sc, Sd, e1, by dsimp only; rw [List.length_map]; exact e2, e3⟩, W3, ?_⟩
        · exact ⟨sz.1, sz.2.1, sz.2.2.1, show Sm 9 by unfold Sm; decide, show ("lose" : Str) ∈ Wl by decide +kernel⟩
        · dsimp only
          rw [o1]
          exact no_shut (gC_lose (mid _ _) rfl)
      · have zr := Sb _ (ix_mem ir)
        have mxb : maxL bs ≤ 8 := by
          rw [← bv]
          have : ∀ (xs : List Int) (t : List RStand), (∀ n ∈ xs, 0 ≤ n) → begun t xs (ft : Int) ≤ xs.sum := by
            intro xs
            induction xs with
            | nil => intro t _; exact Int.le_refl 0
            | cons n r ih =>
              intro t hn
              cases t with
              | nil =>
                have : ∀ (ys : List Int), (∀ n ∈ ys, 0 ≤ n) → 0 ≤ ys.sum := fun ys => by
                  induction ys with
                  | nil => exact fun _ => Int.le_refl 0
                  | cons a b ih2 => exact fun h => by rw [List.sum_cons]; have := h a List.mem_cons_self; have := ih2 fun m hm => h m (List.mem_cons_of_mem _ hm); omega
                exact this _ hn
              | cons s t =>
                have q := ih t fun m hm => hn m (List.mem_cons_of_mem _ hm)
                have q0 := hn n List.mem_cons_self
                unfold begun at q ⊢
                rw [List.zip_cons_cons, List.filter_cons, List.sum_cons]
                dsimp only
                by_cases p : s.1 = (ft : Int)
                · rw [if_pos (decide_eq_true p), List.map_cons, List.sum_cons]; dsimp only; omega
                · rw [if_neg (by simp [p])]; omega
          have := this ns stands nn
          omega
        have fin : ∀ (r : Int) (ns2 : List Int), 1 ≤ r → r ≤ 8 → r < begun stands ns2 (ft : Int) → ns2.length ≤ 14 → (∀ n ∈ ns2, Sm n) → Bad (cut row none (some (ft : Int)) ++ [((ix row (ft : Int)).1, z3.2.1, r, ("stay" : Str))] ++ cut row (some ((ft : Int) + 1)) none, stands, ("shut" : Str), (ns2.map Sum.inr : List PE)) := fun r ns2 r1 r8 rb nl ns' => by
          refine ⟨⟨by dsimp only; rw [lenABC _ _ (by omega) (by omega)]; omega, smABC _ _ ⟨zr.1, zr.2.1, sz.2.2.1, show Sm r by unfold Sm; omega, show ("stay" : Str) ∈ Wl by decide +kernel⟩, Sc, Sd, show ("shut" : Str) ∈ Wc by decide +kernel, by dsimp only; rw [List.length_map]; exact nl, fun x hx => ?_⟩, homI (by decide +kernel), no_shut (gC_room (by dsimp only; omega) ?_)⟩
          · obtain ⟨n, hn, rfl⟩ := List.mem_map.mp hx
            exact ns' n hn
          · rw [lA2]
            dsimp only
            rw [show (((ft : Int).toNat : Nat) : Int) = (ft : Int) by omega]
            exact rb
        show Bad (cut row none (some (ft : Int)) ++ [((ix row (ft : Int)).1, z3.2.1, ix (cond (decide (ix bs (ft : Int) = 1)) (setI bs (ft : Int) 2, (("shut" : Str), (((ns.map Sum.inr : List PE).map fun x => 2 * peI x).map Sum.inr : List PE))) (bs, word, (ns.map Sum.inr : List PE))).1 (ft : Int) - 1, ("stay" : Str))] ++ cut row (some ((ft : Int) + 1)) none, stands, (cond (decide (ix bs (ft : Int) = 1)) (setI bs (ft : Int) 2, (("shut" : Str), (((ns.map Sum.inr : List PE).map fun x => 2 * peI x).map Sum.inr : List PE))) (bs, word, (ns.map Sum.inr : List PE))).2)
        by_cases q : ix bs (ft : Int) = 1
        · rw [decide_eq_true q]
          show Bad (cut row none (some (ft : Int)) ++ [((ix row (ft : Int)).1, z3.2.1, ix (setI bs (ft : Int) 2) (ft : Int) - 1, ("stay" : Str))] ++ cut row (some ((ft : Int) + 1)) none, stands, ("shut" : Str), (((ns.map Sum.inr : List PE).map fun x => 2 * peI x).map Sum.inr : List PE))
          have e : (ns.map Sum.inr : List PE).map (fun x => 2 * peI x) = ns.map fun n => 2 * n := by rw [List.map_map]; rfl
          have e2' : ix (setI bs (ft : Int) 2) (ft : Int) = 2 := by
            rw [Goi.ix_setI (n := bs.length) rfl ⟨by omega, by omega⟩ ⟨by omega, by omega⟩, if_pos rfl]
          rw [e, e2']
          refine fin (2 - 1) _ (by decide) (by decide) ?_ (by rw [List.length_map]; omega) fun n hn => ?_
          · rw [begun_two, bv, ← bx, q]; decide
          · obtain ⟨m, hm, rfl⟩ := List.mem_map.mp hn
            have := o4 m hm
            unfold Sm; omega
        · rw [decide_eq_false q]
          show Bad (cut row none (some (ft : Int)) ++ [((ix row (ft : Int)).1, z3.2.1, ix bs (ft : Int) - 1, ("stay" : Str))] ++ cut row (some ((ft : Int) + 1)) none, stands, word, (ns.map Sum.inr : List PE))
          rw [o1]
          rw [bx] at q ⊢
          refine fin _ ns (by omega) (by omega) (by rw [bv]; omega) (by omega) fun n hn => ?_
          have := o4 n hn
          unfold Sm; omega
theorem broken_no {kind : Str} {N : RNet} (h : GdN kind N) (hk : kind = ("wide" : Str) ∨ kind = ("tight" : Str) ∨ kind = ("shut" : Str)) (st : Std.Stm) : s__law_broken st N kind ∧ Bad (t__law_broken st N kind).1 := by
  have S := h.sm
  have l1 := h.l1; have l4 := h.l4; have m1 := h.m1; have m7 := h.m7
  obtain ⟨W1, W2, W3⟩ := h.w
  have gl := h.gl; have gs := h.gs
  have hN : N = (N.1, N.2.1, N.2.2) := rfl
  obtain ⟨b0, b1⟩ := Std.take_b (s := st) (most := 5) (by decide)
  unfold s__law_broken t__law_broken bd
  dsimp only
  generalize (Std.t__law_take st 5).1 = sort at b0 b1 ⊢
  generalize (Std.t__law_take st 5).2 = st2 at ⊢
  obtain ⟨Sa, Sb, Sc, Sd, Se⟩ := id S
  obtain ⟨p0, p1⟩ := Std.take_b (s := st2) (most := (N.1.length : Int)) (by omega)
  obtain ⟨r0, r1⟩ := Std.take_b (s := st2) (most := (N.2.1.length : Int)) (by omega)
  obtain ⟨u0, u1⟩ := Std.take_b (s := (Std.t__law_take st2 (N.1.length : Int)).2) (most := 13) (by decide)
  obtain ⟨v0, v1⟩ := Std.take_b (s := (Std.t__law_take st2 (N.2.1.length : Int)).2) (most := 11) (by decide)
  obtain ⟨x0, x1⟩ := Std.take_b (s := st2) (most := 2) (by decide)
  obtain ⟨y0, y1⟩ := Std.take_b (s := (Std.t__law_take st2 2).2) (most := 5) (by decide)
  generalize (Std.t__law_take (Std.t__law_take st2 (N.1.length : Int)).2 13).1 = wl at u0 u1 ⊢
  generalize (Std.t__law_take (Std.t__law_take st2 (N.2.1.length : Int)).2 11).1 = ws at v0 v1 ⊢
  generalize (Std.t__law_take (Std.t__law_take st2 2).2 5).1 = wc at y0 y1 ⊢
  generalize (Std.t__law_take st2 (N.1.length : Int)).1 = p at p0 p1 ⊢
  generalize (Std.t__law_take st2 (N.2.1.length : Int)).1 = r at r0 r1 ⊢
  generalize (Std.t__law_take st2 2).1 = tw at x0 x1 ⊢
  have ip : InB N.1.length p := inB_nat p0 (by omega)
  have ir : InB N.2.1.length r := inB_nat r0 (by omega)
  obtain ⟨L1, L2, L3⟩ := line_no (gl _ (ix_mem ip)) u0 u1
  obtain ⟨T1, T2, T3⟩ := stand_no (gs _ (ix_mem ir)) (by omega) (by omega) (by omega) (by omega) v0 v1
  obtain ⟨C1, C2, C3, C4⟩ := comers_no h (w := 3 * tw + wc) (by omega) (by omega)
  obtain ⟨K1, K2⟩ := kind_no h hk st2
  obtain ⟨H1, H2⟩ := whole_no h st2
  have len : ∀ {α : Type} (xs : List α) (k : Int) (y : α), 0 ≤ k → k < xs.length → (cut xs none (some k)).length = k.toNat ∧ (cut xs (some (k + 1)) none).length = xs.length - (k + 1).toNat ∧ (cut xs none (some k) ++ [y] ++ cut xs (some (k + 1)) none).length = xs.length := fun xs k y h0 h1 => by
    have a := cut_to (xs := xs) h0 (by omega)
    have b := cut_from (xs := xs) (t := k + 1) (by omega) (by omega)
    have c : (cut xs none (some k)).length = k.toNat := by rw [a, List.length_take]; omega
    have d : (cut xs (some (k + 1)) none).length = xs.length - (k + 1).toNat := by rw [b, List.length_drop]
    exact ⟨c, d, by rw [List.length_append, List.length_append, c, d, List.length_singleton]; omega⟩
  have sub : ∀ {α : Type} {xs : List α} {lo hi : Option Int} {x : α}, x ∈ cut xs lo hi → x ∈ xs := fun h => List.mem_of_mem_drop (List.mem_of_mem_take h)
  obtain ⟨a1, a2, a3⟩ := len N.1 p (t__law_of_line (ix N.1 p) wl) p0 (by omega)
  obtain ⟨c1, c2, c3⟩ := len N.2.1 r (t__law_of_stand (ix N.2.1 r) ws (N.1.length : Int) (N.2.1.length : Int)) r0 (by omega)
  refine ⟨⟨fun _ => ⟨by omega, ip, L1, by rw [a1]; simp only [List.length_singleton]; omega, by rw [List.length_append, a1, a2]; simp only [List.length_singleton]; omega⟩, fun _ => ⟨fun _ => ⟨by omega, ir, T1, by rw [c1]; simp only [List.length_singleton]; omega, by rw [List.length_append, c1, c2]; simp only [List.length_singleton]; omega⟩, fun _ => ⟨fun _ => ⟨?_, C1⟩, fun _ => ⟨fun _ => K1, fun _ => H1⟩⟩⟩⟩, ?_⟩
  · have : tw = 0 ∨ tw = 1 := by omega
    rcases this with rfl | rfl <;> decide +kernel
  · have hw : sort = 0 ∨ sort = 1 ∨ sort = 2 ∨ sort = 3 ∨ sort = 4 := by omega
    rcases hw with rfl | rfl | rfl | rfl | rfl
    · show Bad (cut N.1 none (some p) ++ [t__law_of_line (ix N.1 p) wl] ++ cut N.1 (some (p + 1)) none, N.2.1, N.2.2)
      refine ⟨⟨by dsimp only; rw [a3]; omega, fun l hl => ?_, Sc, Sd, Se⟩, W3, no_line (l := t__law_of_line (ix N.1 p) wl) (by simp) L3⟩
      rcases in_ABC hl with z | rfl | z
      · exact Sb l (sub z)
      · exact L2
      · exact Sb l (sub z)
    · show Bad (N.1, cut N.2.1 none (some r) ++ [t__law_of_stand (ix N.2.1 r) ws (N.1.length : Int) (N.2.1.length : Int)] ++ cut N.2.1 (some (r + 1)) none, N.2.2)
      refine ⟨⟨Sa, Sb, by dsimp only; rw [c3]; omega, fun s hs => ?_, Se⟩, W3, no_stand (s := t__law_of_stand (ix N.2.1 r) ws (N.1.length : Int) (N.2.1.length : Int)) (by simp) (by rw [c3]; exact T3)⟩
      rcases in_ABC hs with z | rfl | z
      · exact Sd s (sub z)
      · exact T2
      · exact Sd s (sub z)
    · show Bad (N.1, N.2.1, t__law_of_comers N.2.2 (3 * tw + wc))
      exact ⟨⟨Sa, Sb, Sc, Sd, C2⟩, C3, C4⟩
    · exact K2
    · exact H2
theorem refused_ok {N : RNet} (h : Bad N) : s__law_refused N ∧ t__law_refused N = true := by
  obtain ⟨S, hc, hg⟩ := h
  have sh := shows_n S
  have e : rzOf (Net.fn_made_net [eL eRLine N.1, eL eRStand N.2.1, eRCom N.2.2]) = "NoNet" := by rw [made_no hc hg]; rfl
  constructor
  · unfold s__law_refused bd
    dsimp only
    refine ⟨sh, ?_⟩
    show Net.r_made_net N.1 N.2.1 N.2.2 (rzOf (Net.fn_made_net [eL eRLine N.1, eL eRStand N.2.1, eRCom N.2.2])) ∧ rzOf (Net.fn_made_net [eL eRLine N.1, eL eRStand N.2.1, eRCom N.2.2]) ∈ (["NoNet"] : List Str) ∧ _
    rw [e]
    exact ⟨⟨rfl, hc, hg⟩, List.mem_singleton.mpr rfl, sh⟩
  · unfold t__law_refused bd
    show (decide (rzOf (Net.fn_made_net [eL eRLine N.1, eL eRStand N.2.1, eRCom N.2.2]) ∈ (["NoNet"] : List Str)) && _) = true
    rw [e]
    simp
theorem divI_lt {a b c : Int} (h : a < b) (hc : 0 < c) : Rat.divInt a c < Rat.divInt b c := by
  have e : Rat.divInt b c = Rat.divInt a c + Rat.divInt (b - a) c := by rw [Law.divI_add]; congr 1; omega
  have p := Law.divI_pos (show 0 < b - a by omega) hc
  rw [e]
  grind
structure SpJ (k : Nat) (z : Std.Stm × List Int) : Prop where
  len : z.2.length = k + 1
  rg : ∀ x ∈ z.2, 1 ≤ x ∧ x ≤ 6 + 3 * k
  la : ∀ x ∈ z.2, x ≤ ix z.2 (-1)
  up : z.2.Pairwise (· < ·)
theorem ix_last {α : Type} [Inhabited α] (xs : List α) (x : α) : ix (xs ++ [x]) (-1) = x := by
  unfold ix ixN'
  rw [if_pos (by decide)]
  rw [List.getD_eq_getElem?_getD]
  have : (-1 : Int) + ((xs ++ [x]).length : Int) = (xs.length : Int) := by rw [List.length_append, List.length_singleton]; omega
  rw [this]
  simp
theorem SpJ.snoc {k : Nat} {z : Std.Stm × List Int} (h : SpJ k z) (s : Std.Stm) {t : Int} (h0 : 0 ≤ t) (h1 : t < 3) : SpJ (k + 1) (s, z.2 ++ [ix z.2 (-1) + 1 + t]) := by
  have hm : ix z.2 (-1) ∈ z.2 := ix_mem (inB_last (by rw [h.len]; omega))
  have hr := h.rg _ hm
  refine ⟨by dsimp only; rw [List.length_append, h.len]; rfl, fun x hx => ?_, fun x hx => ?_, ?_⟩
  · rcases List.mem_append.mp hx with q | q
    · have := h.rg x q; omega
    · rw [List.mem_singleton.mp q]; omega
  · dsimp only
    rw [ix_last]
    rcases List.mem_append.mp hx with q | q
    · have := h.la x q; omega
    · rw [List.mem_singleton.mp q]; exact Int.le_refl _
  · refine List.pairwise_append.mpr ⟨h.up, List.pairwise_singleton _ _, fun x hx y hy => ?_⟩
    rw [List.mem_singleton.mp hy]
    have := h.la x hx
    omega
def LnOut (kind : Str) (r : RLine × Std.Stm) : Prop := GdL kind r.1
theorem drawn_line (s : Std.Stm) (kind : Str) : s__law_line s kind ∧ LnOut kind (t__law_line s kind) := by
  unfold s__law_line t__law_line
  have t1 := Std.take_b (s := s) (most := 6) (by decide)
  refine hd_bd (P := LnOut kind) (fun (z : Std.Stm × List Int) => SpJ 0 z) ⟨rfl, fun x hx => ?_, fun x hx => ?_, List.pairwise_singleton _ _⟩ ?_
  · rw [List.mem_singleton.mp hx]; omega
  · rw [List.mem_singleton.mp hx]; exact Int.le_refl _
  rintro ⟨s1, sp⟩ h1
  have t2 := Std.take_b (s := s1) (most := 3) (by decide)
  dsimp only at h1 ⊢
  refine hd_and (P := LnOut kind) ⟨by omega, by omega⟩ (hd_fold SpJ ⟨h1.len, h1.rg, h1.la, h1.up⟩ (fun k hk z hz => ?_) (fun z hz => ?_))
  · have t3 := Std.take_b (s := z.1) (most := 3) (by decide)
    have := hz.len
    rw [rangeI_len] at hk
    exact ⟨⟨inB_last (by omega), by omega⟩, hz.snoc _ t3.1 t3.2⟩
  obtain ⟨s3, sp2⟩ := z
  rw [rangeI_len] at hz
  have hl := hz.len
  have hg := hz.rg
  have hu := hz.up
  dsimp only at hl hg hu ⊢
  have t3 := Std.take_b (s := s3) (most := 3) (by decide)
  refine hd_bd (P := LnOut kind) (fun (z : Std.Stm × Int) => 1 ≤ z.2 ∧ z.2 ≤ 3) ⟨by dsimp only; omega, by dsimp only; omega⟩ ?_
  rintro ⟨s4, be⟩ ⟨b1, b3⟩
  dsimp only at b1 b3 ⊢
  refine hd_eq (P := LnOut kind) (hd_eq (P := LnOut kind) ?_)
  have t9 := Std.take_b (s := s4) (most := 9) (by decide)
  have tr := Std.take_b (s := (Std.t__law_take s4 9).2) (most := 3) (by decide)
  refine hd_and (P := LnOut kind) (fun _ => inB_nat tr.1 tr.2) ?_
  refine hd_bd (P := LnOut kind) (fun (z : Std.Stm × Int × Str) => (kind = ("tight" : Str) → 1 ≤ z.2.1 ∧ z.2.1 ≤ 9 ∧ z.2.2 ∈ (["stay", "lose", "skip"] : List Str)) ∧ (kind ≠ ("tight" : Str) → z.2.1 = 0 ∧ z.2.2 = ("" : Str))) ?_ ?_
  · by_cases k : kind = ("tight" : Str)
    · rw [decide_eq_true k]
      refine ⟨fun _ => ?_, fun z => absurd k z⟩
      show 1 ≤ 1 + (Std.t__law_take s4 9).1 ∧ 1 + (Std.t__law_take s4 9).1 ≤ 9 ∧ ix (["stay", "lose", "skip"] : List Str) (Std.t__law_take (Std.t__law_take s4 9).2 3).1 ∈ (["stay", "lose", "skip"] : List Str)
      exact ⟨by omega, by omega, ix_mem (inB_nat tr.1 tr.2)⟩
    · rw [decide_eq_false k]
      exact ⟨fun z => absurd z k, fun _ => ⟨rfl, rfl⟩⟩
  rintro ⟨s5, room, rule⟩ ⟨q1, q2⟩
  dsimp only at q1 q2 ⊢
  have sq : ∀ x ∈ sp2, SmQ (Rat.divInt x be) ∧ 0 < Rat.divInt x be := fun x hx => by
    have := hg x hx
    exact ⟨Law.smq_div (by omega) (by omega) (by omega) (by omega), Law.divI_pos (by omega) (by omega)⟩
  refine ⟨⟨fun x hx => by omega, by omega⟩, ?_⟩
  refine ⟨by dsimp only; rw [List.length_map]; omega, by dsimp only; rw [List.length_map]; omega, fun p hp => ?_, ?_, rfl, q1, q2⟩
  · obtain ⟨x, hx, rfl⟩ := List.mem_map.mp hp
    exact gF_qp (sq x hx).1 fun _ => (sq x hx).2
  · dsimp only
    rw [List.pairwise_map]
    refine hu.imp fun {a b} hab => ?_
    rw [mkq_qp, mkq_qp]
    exact divI_lt hab (by omega)
def GdOut (kind : Str) (r : RNet × Std.Stm) : Prop := GdN kind r.1
structure StJ (kind : Str) (L M : Int) (ps : List Int) (k : Nat) (z : Std.Stm × List RStand) : Prop where
  at_ : z.2.map (fun s => s.1) = ps.take k
  ok : ∀ s ∈ z.2, GdS kind L M s
theorem two_ok {kind : Str} {L M line : Int} {r t : Int} {some_ : List Int} {left : Int} (hl : 0 ≤ line ∧ line < L) (hr : 0 ≤ r ∧ r < 4) (ht : 0 ≤ t ∧ t < M) (hs : some_ = [t] ∨ (some_ = [t, t + 1] ∧ t + 1 < M)) (hk : (kind = ("shut" : Str) ∧ left = 0) ∨ (kind ≠ ("shut" : Str) ∧ left = 1)) :
    GdS kind L M (line, ((1 + r), (5 : Int)), some_.map fun x => (x, ((1 : Int), (some_.length : Int) + left))) := by
  have gr : gF ((1 + r), (5 : Int)) true = true := by
    have : r = 0 ∨ r = 1 ∨ r = 2 ∨ r = 3 := by omega
    rcases this with rfl | rfl | rfl | rfl <;> decide +kernel
  have lf : left = 0 ∨ left = 1 := by rcases hk with h | h <;> omega
  have one : ∀ b : Int, b = 1 ∨ b = 2 ∨ b = 3 → gF ((1 : Int), b) true = true := by
    rintro b (rfl | rfl | rfl) <;> decide +kernel
  have w1 : ∀ (l x b : Int), l < x → x < M → (b = 1 ∨ b = 2 ∨ b = 3) → wOk M l (x, ((1 : Int), b)) = true := fun l x b h1 h2 h3 => by
    unfold wOk
    dsimp only
    rw [one b h3, decide_eq_true h1, decide_eq_true h2]; rfl
  rcases hs with rfl | ⟨rfl, h2⟩
  · rcases hk with ⟨k, rfl⟩ | ⟨k, rfl⟩
    · refine ⟨hl.1, hl.2, gr, by simp, by simp, ?_, ?_, fun _ => ?_⟩
      · show (wOk M (-1) (t, ((1 : Int), (1 : Int))) && true) = true
        rw [w1 _ _ _ (by omega) ht.2 (.inl rfl)]; rfl
      · show ¬ (1 : Rat) < Std.sumQ [mkq ((1 : Int), (1 : Int))]
        decide +kernel
      · show Std.sumQ [mkq ((1 : Int), (1 : Int))] = 1
        decide +kernel
    · refine ⟨hl.1, hl.2, gr, by simp, by simp, ?_, ?_, fun z => absurd z k⟩
      · show (wOk M (-1) (t, ((1 : Int), (2 : Int))) && true) = true
        rw [w1 _ _ _ (by omega) ht.2 (.inr (.inl rfl))]; rfl
      · show ¬ (1 : Rat) < Std.sumQ [mkq ((1 : Int), (2 : Int))]
        decide +kernel
  · rcases hk with ⟨k, rfl⟩ | ⟨k, rfl⟩
    · refine ⟨hl.1, hl.2, gr, by simp, by simp, ?_, ?_, fun _ => ?_⟩
      · show (wOk M (-1) (t, ((1 : Int), (2 : Int))) && (wOk M t (t + 1, ((1 : Int), (2 : Int))) && true)) = true
        rw [w1 _ _ _ (by omega) ht.2 (.inr (.inl rfl)), w1 _ _ _ (by omega) h2 (.inr (.inl rfl))]; rfl
      · show ¬ (1 : Rat) < Std.sumQ [mkq ((1 : Int), (2 : Int)), mkq ((1 : Int), (2 : Int))]
        decide +kernel
      · show Std.sumQ [mkq ((1 : Int), (2 : Int)), mkq ((1 : Int), (2 : Int))] = 1
        decide +kernel
    · refine ⟨hl.1, hl.2, gr, by simp, by simp, ?_, ?_, fun z => absurd z k⟩
      · show (wOk M (-1) (t, ((1 : Int), (3 : Int))) && (wOk M t (t + 1, ((1 : Int), (3 : Int))) && true)) = true
        rw [w1 _ _ _ (by omega) ht.2 (.inr (.inr rfl)), w1 _ _ _ (by omega) h2 (.inr (.inr rfl))]; rfl
      · show ¬ (1 : Rat) < Std.sumQ [mkq ((1 : Int), (3 : Int)), mkq ((1 : Int), (3 : Int))]
        decide +kernel
theorem rep_set {α : Type} (a x : α) {n : Nat} {i : Int} (h0 : 0 ≤ i) (h1 : i < n) : setI (List.replicate n a) i x = List.replicate i.toNat a ++ x :: List.replicate (n - (i.toNat + 1)) a := by
  unfold setI
  have e : ixN' (List.replicate n a).length i = i.toNat := by
    unfold ixN'
    rw [if_neg (by omega)]
  rw [e, List.set_eq_take_append_cons_drop, if_pos (by rw [List.length_replicate]; omega), List.take_replicate, List.drop_replicate, Nat.min_eq_left (by omega)]
theorem drawn_ok (s : Std.Stm) (kind : Str) : s__law_good s kind ∧ GdOut kind (t__law_good s kind) := by
  unfold s__law_good t__law_good
  have t4 := Std.take_b (s := s) (most := 4) (by decide)
  refine hd_bd (P := GdOut kind) (fun (z : Std.Stm × Int) => 1 ≤ z.2 ∧ z.2 ≤ 4) ⟨by dsimp only; omega, by dsimp only; omega⟩ ?_
  rintro ⟨s1, L⟩ ⟨L1, L4⟩
  dsimp only at L1 L4 ⊢
  have t5 := Std.take_b (s := s1) (most := 4) (by decide)
  have lm := lcS_map (e := fun (_ : Int) (s3 : Std.Stm) => ((Std.t__law_take s3 L).1, (Std.t__law_take s3 L).2)) (S := fun (_ : Int) (_ : Std.Stm) => 0 < L) (fun _ x => 0 ≤ x ∧ x < L) (rangeI 0 (Std.t__law_take s1 4).1) (Std.t__law_take s1 4).2 fun x _ s => ⟨by omega, Std.take_b (by omega)⟩
  have ll : (lcS (fun (_ : Int) (s3 : Std.Stm) => (true, s3)) (fun (_ : Int) (s3 : Std.Stm) => ((Std.t__law_take s3 L).1, (Std.t__law_take s3 L).2)) (rangeI 0 (Std.t__law_take s1 4).1) (Std.t__law_take s1 4).2).1.length = (Std.t__law_take s1 4).1.toNat := by rw [← lm.2.len, rangeI_len]; congr 1; omega
  refine hd_and (P := GdOut kind) ⟨by omega, by omega⟩ (hd_and (P := GdOut kind) ⟨by omega, by omega⟩ (hd_and (P := GdOut kind) lm.1 (hd_and (P := GdOut kind) (by rw [rangeI_len]; omega) (hd_and (P := GdOut kind) (by rw [ll, rangeI_len]; omega) ?_))))
  refine hd_bd (P := GdOut kind) (fun (z : Std.Stm × List Int) => (L : Int) ≤ z.2.length ∧ (z.2.length : Int) ≤ L + 3 ∧ (∀ x ∈ z.2, 0 ≤ x ∧ x < L) ∧ ∀ i : Int, 0 ≤ i → i < L → i ∈ z.2) ?_ ?_
  · refine ⟨by dsimp only; rw [List.length_append, ll, rangeI_len]; omega, by dsimp only; rw [List.length_append, ll, rangeI_len]; omega, fun x hx => ?_, fun i h0 h1 => List.mem_append.mpr (.inl (mem_rangeI.mpr ⟨h0, h1⟩))⟩
    rcases List.mem_append.mp hx with z | z
    · exact mem_rangeI.mp z
    · exact lm.2.right (P := fun x => 0 ≤ x ∧ x < L) (fun _ _ _ h => h) x z
  rintro ⟨s2, ps⟩ ⟨p1, p2, p3, p4⟩
  dsimp only at p1 p2 p3 p4 ⊢
  refine hd_eq (P := GdOut kind) (hd_bd (P := GdOut kind) (fun (left : Int) => (kind = ("shut" : Str) ∧ left = 0) ∨ (kind ≠ ("shut" : Str) ∧ left = 1)) ?_ fun left hleft => hd_eq (P := GdOut kind) ?_)
  · by_cases k : kind = ("shut" : Str)
    · exact .inl ⟨k, by rw [decide_eq_true k]; rfl⟩
    · exact .inr ⟨k, by rw [decide_eq_false k]; rfl⟩
  refine hd_fold (P := GdOut kind) (StJ kind L (ps.length : Int) ps) ⟨by simp, fun s hs => (nomatch hs)⟩ (fun k hk z hz => ?_) (fun z hz => ?_)
  · have a0 := Std.take_b (s := z.1) (most := (ps.length : Int)) (by omega)
    have a1 := Std.take_b (s := (Std.t__law_take z.1 (ps.length : Int)).2) (most := 4) (by decide)
    have zl : z.2.length = k := by
      have := congrArg List.length hz.at_
      rw [List.length_map, List.length_take] at this
      omega
    have pk := p3 _ (List.getElem_mem hk)
    generalize ht : (Std.t__law_take z.1 (ps.length : Int)).1 = t at a0 ⊢
    generalize (Std.t__law_take z.1 (ps.length : Int)).2 = sz at a1 ⊢
    generalize hr : (Std.t__law_take sz 4).1 = r at a1 ⊢
    have e0 : ix [t] 0 = t := rfl
    have sm : cond (decide (ix [t] 0 + 1 < (ps.length : Int))) ([t] ++ [ix [t] 0 + 1]) [t] = [t] ∨ (cond (decide (ix [t] 0 + 1 < (ps.length : Int))) ([t] ++ [ix [t] 0 + 1]) [t] = [t, t + 1] ∧ t + 1 < (ps.length : Int)) := by
      rw [e0]
      by_cases q : t + 1 < (ps.length : Int)
      · rw [decide_eq_true q]; exact .inr ⟨rfl, q⟩
      · rw [decide_eq_false q]; exact .inl rfl
    have sl : (cond (decide (ix [t] 0 + 1 < (ps.length : Int))) ([t] ++ [ix [t] 0 + 1]) [t]).length ≤ 2 := by
      rcases sm with e | ⟨e, _⟩ <;> rw [e] <;> simp
    unfold bd
    dsimp only
    rw [hr]
    refine ⟨⟨by omega, inB_nat (by decide) (by simp), fun _ => ⟨inB_nat (by decide) (by simp), by simp⟩, by omega, by omega⟩, ?_, fun s hs => ?_⟩
    · dsimp only
      rw [List.map_append, hz.at_, List.map_singleton, List.take_succ_eq_append_getElem hk]
    · rcases List.mem_append.mp hs with q | q
      · exact hz.ok s q
      · rw [List.mem_singleton.mp q]
        exact two_ok pk ⟨a1.1, a1.2⟩ a0 sm hleft
  obtain ⟨s3, stands⟩ := z
  have hat := hz.at_
  have hok := hz.ok
  dsimp only at hat hok ⊢
  rw [List.take_length] at hat
  have sl : stands.length = ps.length := by rw [← hat, List.length_map]
  have lr := lcS_map (e := fun (_ : Int) (s24 : Std.Stm) => ((t__law_line s24 kind).1, (t__law_line s24 kind).2)) (S := fun (_ : Int) (s24 : Std.Stm) => s__law_line s24 kind) (fun _ l => GdL kind l) (rangeI 0 L) s3 fun x _ s => drawn_line s kind
  have rl : (lcS (fun (_ : Int) (s24 : Std.Stm) => (true, s24)) (fun (_ : Int) (s24 : Std.Stm) => ((t__law_line s24 kind).1, (t__law_line s24 kind).2)) (rangeI 0 L) s3).1.length = L.toNat := by rw [← lr.2.len, rangeI_len]; congr 1; omega
  refine hd_and (P := GdOut kind) ⟨by omega, by omega⟩ (hd_and (P := GdOut kind) lr.1 (hd_and (P := GdOut kind) (by rw [rangeI_len]; omega) ?_))
  refine hd_bd (P := GdOut kind) (fun (z : Std.Stm × List RLine) => (z.2.length : Int) = L ∧ ∀ l ∈ z.2, GdL kind l) ⟨by dsimp only; rw [rl]; omega, fun l hl => ?_⟩ ?_
  · exact lr.2.right (P := GdL kind) (fun _ _ _ h => h) l hl
  rintro ⟨s4, row⟩ ⟨r1, r2⟩
  dsimp only at r1 r2 ⊢
  have t8 := Std.take_b (s := s4) (most := 8) (by decide)
  have t2 := Std.take_b (s := s4) (most := 2) (by decide)
  have tm := Std.take_b (s := (Std.t__law_take s4 8).2) (most := (ps.length : Int)) (by omega)
  have tn := Std.take_b (s := (Std.t__law_take s4 2).2) (most := (ps.length : Int)) (by omega)
  have base : ∀ c : RCom, (kind ≠ ("shut" : Str) → c.1 = ("open" : Str) ∧ ∃ qs : List P2, c.2 = qs.map Sum.inl ∧ qs.length = stands.length ∧ (∀ p ∈ qs, gF p false = true) ∧ ∃ p ∈ qs, p ≠ ((0 : Int), (1 : Int))) → (kind = ("shut" : Str) → c.1 = ("shut" : Str) ∧ ∃ ns : List Int, c.2 = ns.map Sum.inr ∧ ns.length = stands.length ∧ (∀ n ∈ ns, 0 ≤ n ∧ n ≤ 8) ∧ 1 ≤ ns.sum ∧ ns.sum ≤ 8) → GdN kind (row, stands, c) := fun c o t => by
    refine ⟨by dsimp only; omega, by dsimp only; omega, by dsimp only; omega, by dsimp only; omega, by dsimp only; omega, r2, fun s hs => ?_, fun i h0 h1 => ?_, o, t⟩
    · dsimp only
      rw [r1, sl]
      exact hok s hs
    · dsimp only at h1
      have := p4 i h0 (by omega)
      rw [← hat] at this
      obtain ⟨s, hs, e⟩ := List.mem_map.mp this
      exact ⟨s, hs, e⟩
  refine hd_cond (P := GdOut kind) (fun k => ?_) (fun k => ?_)
  · have k := of_decide_eq_true k
    generalize (Std.t__law_take s4 8).1 = n at t8 ⊢
    refine ⟨⟨⟨by omega, by omega, by simp⟩, by omega, ?_⟩, ?_⟩
    · show InB (repI [(0 : Int)] (ps.length : Int)).length _
      rw [repI_one, List.length_replicate]
      exact inB_nat tm.1 (by omega)
    · show GdN kind (row, stands, (("shut" : Str), ((setI (repI [(0 : Int)] (ps.length : Int)) (Std.t__law_take (Std.t__law_take s4 8).2 (ps.length : Int)).1 (1 + n)).map Sum.inr : List PE)))
      refine base _ (fun z => absurd k z) fun _ => ⟨rfl, _, rfl, ?_, ?_, ?_⟩
      · rw [setI_len, repI_one, List.length_replicate]; omega
      · rw [repI_one, rep_set _ _ tm.1 (by omega)]
        intro x hx
        rcases List.mem_append.mp hx with q | q
        · rw [(List.mem_replicate.mp q).2]; omega
        · rcases List.mem_cons.mp q with q | q
          · omega
          · rw [(List.mem_replicate.mp q).2]; omega
      · rw [repI_one, rep_set _ _ tm.1 (by omega), List.sum_append, List.sum_cons, List.sum_replicate_int, List.sum_replicate_int]
        omega
  · have k := of_decide_eq_false k
    generalize (Std.t__law_take s4 2).1 = n at t2 ⊢
    refine ⟨?_, ?_⟩
    · refine ⟨⟨by omega, by omega, by simp⟩, ?_⟩
      show mulOk 2 n = true ∧ 0 < (ps.length : Int) ∧ InB (repI [((0 : Int), (1 : Int))] (ps.length : Int)).length _
      rw [repI_one, List.length_replicate]
      refine ⟨?_, by omega, inB_nat tn.1 (by omega)⟩
      have : n = 0 ∨ n = 1 := by omega
      rcases this with rfl | rfl <;> decide
    · have rs := rep_set ((0 : Int), (1 : Int)) (1 + 2 * n, (4 : Int)) (n := (ps.length : Int).toNat) tn.1 (by omega)
      refine base _ (fun _ => ⟨rfl, _, rfl, ?_, fun p hp => ?_, (1 + 2 * n, (4 : Int)), ?_, ?_⟩) fun z => absurd z k
      · dsimp only
        rw [setI_len, repI_one, List.length_replicate]; omega
      · dsimp only at hp
        rw [repI_one, rs] at hp
        have z : gF ((0 : Int), (1 : Int)) false = true := by decide +kernel
        rcases List.mem_append.mp hp with q | q
        · rw [(List.mem_replicate.mp q).2]; exact z
        · rcases List.mem_cons.mp q with q | q
          · rw [q]
            have : n = 0 ∨ n = 1 := by omega
            rcases this with rfl | rfl <;> decide +kernel
          · rw [(List.mem_replicate.mp q).2]; exact z
      · dsimp only
        rw [repI_one, rs]
        exact List.mem_append.mpr (.inr (List.mem_cons.mpr (.inl rfl)))
      · intro e
        have := congrArg Prod.snd e
        dsimp only at this
        omega
structure GeL (kind : Str) (l : RLine) : Prop where
  n1 : 1 ≤ l.1.length
  n6 : l.1.length ≤ 6
  g : ∀ p ∈ l.1, gF p true = true
  up : l.1.Pairwise fun p q => mkq p ≤ mkq q
  mo : l.2.1 = ((0 : Int), (1 : Int))
  rt : kind = ("tight" : Str) → 1 ≤ l.2.2.1 ∧ l.2.2.1 ≤ 9 ∧ l.2.2.2 ∈ (["stay", "lose", "skip"] : List Str)
  rn : kind ≠ ("tight" : Str) → l.2.2.1 = 0 ∧ l.2.2.2 = ("" : Str)
theorem GeL.ok {kind : Str} {l : RLine} (h : GeL kind l) : Raw.gL l = true := by
  have n2 := h.n1; have n4 := h.n6
  unfold Raw.gL
  simp only [Bool.and_eq_true, decide_eq_true_iff]
  refine ⟨⟨by omega, by omega⟩, List.all_eq_true.mpr h.g, up_ok h.up, by rw [h.mo]; decide, ?_⟩
  by_cases q : kind = ("tight" : Str)
  · obtain ⟨a, b, c⟩ := h.rt q
    refine ⟨⟨by omega, b⟩, ?_⟩
    rw [show decide (l.2.2.1 = 0) = false from decide_eq_false (by omega)]
    exact decide_eq_true c
  · obtain ⟨a, b⟩ := h.rn q
    refine ⟨⟨by omega, by omega⟩, ?_⟩
    rw [a, b]; decide
theorem gE_sm {kind : Str} {l : RLine} (h : GeL kind l) : SmL l := by
  have n4 := h.n6
  refine ⟨by omega, fun p hp => gF_sm (h.g p hp), by rw [h.mo]; exact ⟨by unfold Sm; decide, by unfold Sm; decide⟩, ?_, ?_⟩
  · by_cases t : kind = ("tight" : Str)
    · have := (h.rt t).1; have := (h.rt t).2.1; unfold Sm; omega
    · rw [(h.rn t).1]; unfold Sm; decide
  · by_cases t : kind = ("tight" : Str)
    · have e := (h.rt t).2.2
      simp only [List.mem_cons, List.not_mem_nil, or_false] at e
      unfold Wl
      rcases e with e | e | e <;> rw [e] <;> decide +kernel
    · rw [(h.rn t).2]; decide +kernel
noncomputable def atL (l : RLine) : RLine := ((((repI ((cut l.1 none (some ((1 : Int))))) (((6 : Int) - (l.1.length : Int)))) ++ (cut l.1 none (some ((-(1 : Int)))))) ++ ([((1000 : Int), (1 : Int))] : List (Int × Int))), l.2.1, ((9 : Int) * (Dt.b2i (decide ((0 : Int) < l.2.2.1)))), l.2.2.2)
theorem gF_le {p : P2} {an : Bool} (h : gF p an = true) : mkq p ≤ 1000 := by
  unfold gF at h
  simp only [Bool.and_eq_true, decide_eq_true_iff] at h
  obtain ⟨⟨⟨a1, a2⟩, ⟨b1, b2⟩, _⟩, _⟩ := h
  have c := Law.divI_le (a := p.1) (b := 1000 * p.2) (c := 1 * p.2) (by omega) (by omega)
  rw [Rat.divInt_mul_right (by omega), Int.one_mul, show Rat.divInt 1000 1 = 1000 by decide +kernel] at c
  exact c
theorem atL_ok {kind : Str} {l : RLine} (h : GdL kind l) : GeL kind (atL l) ∧ (cut l.1 none (some 1)).length = 1 ∧ (cut l.1 none (some (-1))).length ≤ 3 ∧ (repI (cut l.1 none (some 1)) (6 - (l.1.length : Int)) ++ cut l.1 none (some (-1))).length = 5 := by
  have n2 := h.n2; have n4 := h.n4; have g := h.g; have up := h.up; have mo := h.mo; have rt := h.rt; have rn := h.rn
  obtain ⟨sp, more, room, rule⟩ := l
  dsimp only at n2 n4 g up mo rt rn
  obtain ⟨a, r, rfl⟩ : ∃ a r, sp = a :: r := by
    cases sp with
    | nil => simp at n2
    | cons a r => exact ⟨a, r, rfl⟩
  have c1 : cut (a :: r) none (some 1) = [a] := by rw [cut_to (by decide) (by omega)]; rfl
  have c2 : cut (a :: r) none (some (-1)) = (a :: r).dropLast := cut_butlast
  have e : repI (cut (a :: r) none (some 1)) (6 - ((a :: r).length : Int)) = List.replicate (6 - ((a :: r).length : Int)).toNat a := by rw [c1, repI_one]
  have ga := g a (by simp)
  refine ⟨⟨?_, ?_, fun p hp => ?_, ?_, mo, fun k => ?_, fun k => ?_⟩, ?_, ?_, ?_⟩
  · unfold atL; dsimp only; simp; omega
  · unfold atL; dsimp only; rw [e, c2]; simp; simp at n2 n4; omega
  · unfold atL at hp; dsimp only at hp
    rw [e, c2] at hp
    rcases List.mem_append.mp hp with q | q
    · rcases List.mem_append.mp q with q | q
      · rw [(List.mem_replicate.mp q).2]; exact ga
      · exact g p (List.dropLast_subset _ q)
    · rw [List.mem_singleton.mp q]; decide +kernel
  · unfold atL; dsimp only
    rw [e, c2]
    have ua : ∀ x ∈ (a :: r), mkq a ≤ mkq x := fun x hx => by
      rcases List.mem_cons.mp hx with q | q
      · rw [q]; exact Rat.le_refl
      · exact Rat.le_of_lt ((List.pairwise_cons.mp up).1 x q)
    refine List.pairwise_append.mpr ⟨List.pairwise_append.mpr ⟨?_, ?_, fun x hx y hy => ?_⟩, List.pairwise_singleton _ _, fun x hx y hy => ?_⟩
    · exact List.pairwise_replicate.mpr (.inr Rat.le_refl)
    · exact (up.sublist (List.dropLast_sublist _)).imp fun z => Rat.le_of_lt z
    · rw [(List.mem_replicate.mp hx).2]
      exact ua y (List.dropLast_subset _ hy)
    · rw [List.mem_singleton.mp hy, show mkq ((1000 : Int), (1 : Int)) = 1000 by decide +kernel]
      rcases List.mem_append.mp hx with q | q
      · rw [(List.mem_replicate.mp q).2]; exact gF_le ga
      · exact gF_le (g x (List.dropLast_subset _ q))
  · have := rt k
    unfold atL; dsimp only
    rw [show decide ((0 : Int) < room) = true from decide_eq_true (by omega)]
    exact ⟨by decide, by decide, this.2.2⟩
  · have := rn k
    unfold atL; dsimp only
    rw [show decide ((0 : Int) < room) = false from decide_eq_false (by omega)]
    exact ⟨by decide, this.2⟩
  · rw [c1]; rfl
  · rw [c2, List.length_dropLast]; simp at n4; simp; omega
  · dsimp only
    rw [e, c2]; simp; simp at n2 n4; omega
theorem at_last_ok {kind : Str} {N : RNet} (h : GdN kind N) : s__law_at_last N ∧ t__law_at_last N = true := by
  have l1 := h.l1; have l4 := h.l4; have m1 := h.m1; have m7 := h.m7
  have w := h.w
  have gl := h.gl; have gs := h.gs
  have om := h.smC
  have o : N.2.2.2.length ≤ 14 := om.2.1
  have fe : ∀ l ∈ N.1.map atL, GeL kind l := fun l hl => by
    obtain ⟨x, hx, rfl⟩ := List.mem_map.mp hl
    exact (atL_ok (gl x hx)).1
  have ge : ∀ s ∈ N.2.1.map (fun (x : RStand) => ((x.1, ((1 : Int), (1000 : Int)), x.2.2) : RStand)), Raw.gS s (N.1.length : Int) (N.2.1.length : Int) = true := fun s hs => by
    obtain ⟨x, hx, rfl⟩ := List.mem_map.mp hs
    have g := gs x hx
    unfold Raw.gS
    simp only [Bool.and_eq_true, decide_eq_true_iff, Bool.not_eq_true', decide_eq_false_iff_not]
    exact ⟨⟨g.l0, g.l1⟩, by decide +kernel, g.ok, g.le⟩
  have S : SmN (N.1.map atL, N.2.1.map (fun (x : RStand) => ((x.1, ((1 : Int), (1000 : Int)), x.2.2) : RStand)), N.2.2) := by
    refine ⟨by dsimp only; rw [List.length_map]; omega, fun l hl => gE_sm (fe l hl), by dsimp only; rw [List.length_map]; omega, fun s hs => ?_, om⟩
    refine gS_sm (by omega) (by omega) (ge s hs) ?_
    obtain ⟨x, hx, rfl⟩ := List.mem_map.mp hs
    have := (gs x hx).n2
    dsimp only
    omega
  have sh := shows_n S
  have gd : Raw.gN (N.1.map atL) (N.2.1.map (fun (x : RStand) => ((x.1, ((1 : Int), (1000 : Int)), x.2.2) : RStand))) N.2.2 = true := by
    have hr : ∀ l ∈ N.1.map atL, kind ≠ ("tight" : Str) → l.2.2.1 = 0 ∧ l.2.2.2 = ("" : Str) := fun l hl => (fe l hl).rn
    have len : (N.1.map atL).length = N.1.length := List.length_map _
    unfold Raw.gN
    rw [len, List.length_map]
    simp only [Bool.and_eq_true, decide_eq_true_iff]
    refine ⟨⟨⟨by omega, by omega⟩, by omega, by omega⟩, List.all_eq_true.mpr fun l hl => (fe l hl).ok, List.all_eq_true.mpr ge, unused_nil fun i h0 h1 => ?_, ⟨?_, by rw [w.2.1]⟩, ?_⟩
    · rw [len] at h1
      obtain ⟨s, hs, e⟩ := h.us i h0 h1
      exact ⟨_, List.mem_map.mpr ⟨s, hs, rfl⟩, e⟩
    · rcases w.1 with e | e <;> rw [e] <;> decide +kernel
    · by_cases k : kind = ("shut" : Str)
      · obtain ⟨a, ns, b, c, d, e, f⟩ := h.st k
        rw [a, b, ns_inr, show decide (("shut" : Str) = ("open" : Str)) = false by decide +kernel]
        show gC (N.1.map atL) (N.2.1.map (fun (x : RStand) => ((x.1, ((1 : Int), (1000 : Int)), x.2.2) : RStand))) ns = true
        have kt : kind ≠ ("tight" : Str) := by rw [k]; decide +kernel
        have nn : ns ≠ [] := fun z => by rw [z] at c; simp at c; omega
        unfold gC
        simp only [Bool.and_eq_true, decide_eq_true_iff, Bool.or_eq_true]
        refine ⟨⟨(d _ (minL_mem nn)).1, e, f⟩, ?_, List.all_eq_true.mpr fun s hs => ?_, List.all_eq_true.mpr fun z hz => ?_⟩
        · rw [List.filter_eq_nil_iff]
          intro l hl
          rw [(hr l hl kt).2]; decide +kernel
        · obtain ⟨x, hx, rfl⟩ := List.mem_map.mp hs
          exact decide_eq_true ((gs x hx).sh k)
        · have : z.2 ∈ N.1.map atL := (List.of_mem_zip (show z ∈ (rangeI 0 ((N.1.map atL).length : Int)).zip (N.1.map atL) from hz)).2
          rw [(hr _ this kt).1]; rfl
      · obtain ⟨a, ps, b, c, d, p0, p1, p2⟩ := h.op k
        rw [a, b, ps_inl, show decide (("open" : Str) = ("open" : Str)) = true by decide +kernel]
        show gR (N.1.map atL) ps = true
        have ne : ((N.1.map atL).map fun l => l.2.2.1) ≠ [] := fun z => by rw [List.map_eq_nil_iff, List.map_eq_nil_iff] at z; rw [z] at l1; simp at l1
        unfold gR
        simp only [Bool.and_eq_true, decide_eq_true_iff, Bool.not_eq_true', decide_eq_false_iff_not]
        refine ⟨List.all_eq_true.mpr d, fun z => ?_, ?_⟩
        · have := List.filter_eq_nil_iff.mp z p0 p1
          simp [p2] at this
        · by_cases t : kind = ("tight" : Str)
          · have rm : ∀ x ∈ (N.1.map atL).map fun l => l.2.2.1, 1 ≤ x := fun x hx => by
              obtain ⟨l, hl, rfl⟩ := List.mem_map.mp hx
              exact ((fe l hl).rt t).1
            have m := rm _ (maxL_mem ne)
            have n := rm _ (minL_mem ne)
            rw [show decide (maxL ((N.1.map atL).map fun l => l.2.2.1) = 0) = false from decide_eq_false (by omega)]
            exact decide_eq_true (by omega)
          · have rm : ∀ x ∈ (N.1.map atL).map fun l => l.2.2.1, x = 0 := fun x hx => by
              obtain ⟨l, hl, rfl⟩ := List.mem_map.mp hx
              exact ((fe l hl).rn t).1
            rw [rm _ (maxL_mem ne)]
            refine decide_eq_true ?_
            rw [List.filter_eq_nil_iff]
            intro l hl
            rw [(fe l hl).mo]; decide +kernel
  unfold s__law_at_last t__law_at_last
  refine hd_eq (P := fun b : Bool => b = true) (hd_eq (P := fun b : Bool => b = true) (hd_fold (P := fun b : Bool => b = true) (fun k z => z = (N.1.take k).map atL) rfl (fun k hk z hz => ?_) (fun z hz => ?_)))
  · obtain ⟨g1, g2, g3, g4⟩ := atL_ok (gl _ (List.getElem_mem hk))
    have n4 := (gl _ (List.getElem_mem hk)).n4
    refine ⟨⟨⟨by omega, by omega, by omega⟩, ?_, ?_, ?_, ?_⟩, ?_⟩
    · rw [List.length_append] at g4; omega
    · rw [g4]; simp
    · cases decide ((0 : Int) < (N.1[k]).2.2.1) <;> decide
    · rw [hz, List.length_map, List.length_take]; omega
    · rw [List.take_succ_eq_append_getElem hk, List.map_append, hz]
      rfl
  · rw [List.take_length] at hz
    subst hz
    refine hd_and (P := fun b : Bool => b = true) (by omega) (hd_eq (P := fun b : Bool => b = true) (hd_and (P := fun b : Bool => b = true) sh (hd_eq (P := fun b : Bool => b = true) ⟨⟨⟨w.2.2, gd⟩, sh, fun _ => sh⟩, ?_⟩)))
    simp only [decide_true, Bool.and_self]
theorem hd_no {β : Type} {P : β → Prop} {c : Bool} {S : Prop} {t1 t2 : β} (h : c = false) (g : S ∧ P t2) : (c = false → S) ∧ P (cond c t1 t2) := by
  rw [h]; exact ⟨fun _ => g.1, g.2⟩
def IsT (b : Bool) : Prop := b = true
def IsN (b : Fw Unit Bool) : Prop := ∃ s', b = .nx s' ∧ True
theorem turn_ok {kind : Str} {N : RNet} (h : GdN kind N) (hk : kind = ("wide" : Str) ∨ kind = ("tight" : Str) ∨ kind = ("shut" : Str)) (st : Std.Stm) :
    (s__law_broken st N kind ∧ s__law_refused ((t__law_broken st N kind).1)) ∧ t__law_refused ((t__law_broken st N kind).1) = true := by
  obtain ⟨a, b⟩ := broken_no h hk st
  obtain ⟨c, d⟩ := refused_ok b
  exact ⟨⟨a, c⟩, d⟩
theorem law_true {ns : List Int} : fn_law [.scr ns] = .ok (.bl true) .ff .non := by
  have key : s_law ns ∧ IsT (t_law ns) := by
    unfold s_law t_law
    refine hd_flwT (P := IsT) (fun _ => True) trivial (fun x hx _ _ => ?_) (fun _ _ => rfl)
    have hx := mem_rangeI.mp hx
    refine hd_and (P := IsN) ⟨by omega, by omega⟩ (hd_eq (P := IsN) ?_)
    generalize Std.t__law_stream ns x = s0
    have t1 := Std.take_b (s := s0) (most := 3) (by decide)
    have ib : InB (([("wide" : Str), ("tight" : Str), ("shut" : Str)] : List Str)).length (((((Std.t__law_take s0 ((3 : Int))).1 + x)).fmod ((3 : Int)))) := inB_nat (Int.fmod_nonneg_of_pos _ (by decide)) (Int.fmod_lt_of_pos _ (by decide))
    refine hd_and (P := IsN) ib (hd_bd (P := IsN) (fun (z : Std.Stm × Str) => z.2 = ("wide" : Str) ∨ z.2 = ("tight" : Str) ∨ z.2 = ("shut" : Str)) ?_ ?_)
    · have := ix_mem ib
      simpa only [List.mem_cons, List.not_mem_nil, or_false] using this
    rintro ⟨s1, kind⟩ hk
    dsimp only at hk ⊢
    obtain ⟨d1, d2⟩ := drawn_ok s1 kind
    refine hd_and (P := IsN) d1 (hd_bd (P := IsN) (fun (z : Std.Stm × RNet) => GdN kind z.2) d2 ?_)
    rintro ⟨s2, N⟩ hN
    dsimp only at hN
    have S := hN.sm
    have sh := shows_n S
    have ok := hN.ok
    obtain ⟨a1, a2⟩ := at_last_ok hN
    refine hd_and (P := IsN) sh (hd_eq (P := IsN) (hd_and (P := IsN) ⟨hN.w.2.2, ok⟩ (hd_and (P := IsN) sh (hd_and (P := IsN) (fun _ => sh) ?_))))
    have W := flw_prop (f := ((fun (z8 : Std.Stm) (xv9 : Int) => cond (!(t__law_refused ((t__law_broken z8 N kind).1))) (Fw.rt false) (Fw.nx ((t__law_broken z8 N kind).2))) : Std.Stm → Int → Fw Std.Stm Bool)) (S := (fun (z8 : Std.Stm) (xv9 : Int) => ((s__law_broken z8 N kind) ∧ (s__law_refused ((t__law_broken z8 N kind).1))))) (fun _ => True) (rangeI 0 ((3 : Int))) s2 trivial fun y _ st _ => by
      obtain ⟨c, d⟩ := turn_ok hN hk st
      exact ⟨c, (t__law_broken st N kind).2, by rw [d]; rfl, trivial⟩
    obtain ⟨W1, z, W2, _⟩ := W
    refine hd_no (P := IsN) ?_ (hd_and (P := IsN) a1 (hd_no (P := IsN) (by rw [a2]; rfl) ⟨W1, ?_⟩))
    · obtain ⟨x1, x2, x3⟩ := N
      simp only [decide_true, Bool.not_true, Bool.or_self]
    rw [W2]
    exact ⟨(), rfl, trivial⟩
  rw [e_law key.1]
  have t : t_law ns = true := key.2
  rw [t]
end K04
namespace K04
open PySem PySem.Spec PyProof.Rows L2 Dt
namespace Wk
def topS (i : Nat) : Stmt := PySem.Challenge.pw_restlines_k04_nets_refused.main.body.getD i (.Pass ⟨0, 0, 0, 0⟩)
abbrev s_common : Stmt := topS 7
abbrev s_fraction : Stmt := topS 8
abbrev s_plus : Stmt := topS 9
abbrev s_is_less : Stmt := topS 10
abbrev s_total : Stmt := topS 11
abbrev s_ask : Stmt := topS 22
abbrev s_ask_fraction : Stmt := topS 23
abbrev s_ask_line : Stmt := topS 24
abbrev s_ask_stand : Stmt := topS 25
abbrev s_ask_rates : Stmt := topS 26
abbrev s_ask_counts : Stmt := topS 27
abbrev s_ask_net : Stmt := topS 28
abbrev s_made_net : Stmt := topS 29
abbrev s__law_stream : Stmt := topS 31
abbrev s__law_take : Stmt := topS 32
abbrev s__law_fraction : Stmt := topS 33
abbrev s__law_line : Stmt := topS 34
abbrev s__law_good : Stmt := topS 35
abbrev s__law_of_line : Stmt := topS 36
abbrev s__law_of_stand : Stmt := topS 37
abbrev s__law_of_comers : Stmt := topS 38
abbrev s__law_by_kind : Stmt := topS 39
abbrev s__law_of_whole : Stmt := topS 40
abbrev s__law_broken : Stmt := topS 41
abbrev s__law_refused : Stmt := topS 42
abbrev s__law_at_last : Stmt := topS 43
abbrev s_law : Stmt := topS 44
structure Txt (K : PySem.W.Frag) (mg : Str → Option Value) : Prop where
  f_common : FnIn K mg "common" s_common
  f_fraction : FnIn K mg "fraction" s_fraction
  f_plus : FnIn K mg "plus" s_plus
  f_is_less : FnIn K mg "is_less" s_is_less
  f_total : FnIn K mg "total" s_total
  f_ask : FnIn K mg "ask" s_ask
  f_ask_fraction : FnIn K mg "ask_fraction" s_ask_fraction
  f_ask_line : FnIn K mg "ask_line" s_ask_line
  f_ask_stand : FnIn K mg "ask_stand" s_ask_stand
  f_ask_rates : FnIn K mg "ask_rates" s_ask_rates
  f_ask_counts : FnIn K mg "ask_counts" s_ask_counts
  f_ask_net : FnIn K mg "ask_net" s_ask_net
  f_made_net : FnIn K mg "made_net" s_made_net
  f__law_stream : FnIn K mg "_law_stream" s__law_stream
  f__law_take : FnIn K mg "_law_take" s__law_take
  f__law_fraction : FnIn K mg "_law_fraction" s__law_fraction
  f__law_line : FnIn K mg "_law_line" s__law_line
  f__law_good : FnIn K mg "_law_good" s__law_good
  f__law_of_line : FnIn K mg "_law_of_line" s__law_of_line
  f__law_of_stand : FnIn K mg "_law_of_stand" s__law_of_stand
  f__law_of_comers : FnIn K mg "_law_of_comers" s__law_of_comers
  f__law_by_kind : FnIn K mg "_law_by_kind" s__law_by_kind
  f__law_of_whole : FnIn K mg "_law_of_whole" s__law_of_whole
  f__law_broken : FnIn K mg "_law_broken" s__law_broken
  f__law_refused : FnIn K mg "_law_refused" s__law_refused
  f__law_at_last : FnIn K mg "_law_at_last" s__law_at_last
  f_law : FnIn K mg "law" s_law
  b_abs : mg "abs" = none
  b_enumerate : mg "enumerate" = none
  b_int : mg "int" = none
  b_isinstance : mg "isinstance" = none
  b_len : mg "len" = none
  b_list : mg "list" = none
  b_max : mg "max" = none
  b_min : mg "min" = none
  b_range : mg "range" = none
  b_repr : mg "repr" = none
  b_sum : mg "sum" = none
  b_zip : mg "zip" = none
  c_MOST_COMERS : CnIn K mg "MOST_COMERS" (.int 8)
  c_MOST_LINES : CnIn K mg "MOST_LINES" (.int 8)
  c_MOST_ROOM : CnIn K mg "MOST_ROOM" (.int 9)
  c_MOST_SPEEDS : CnIn K mg "MOST_SPEEDS" (.int 6)
  c_MOST_STANDS : CnIn K mg "MOST_STANDS" (.int 12)
  c_NOUGHT : CnIn K mg "NOUGHT" (.tup [(.int 0), (.int 1)])
  c_ONE : CnIn K mg "ONE" (.tup [(.int 1), (.int 1)])
  c_OPEN : CnIn K mg "OPEN" (.str "open")
  c_RULES : CnIn K mg "RULES" (.tup [(.str "stay"), (.str "lose"), (.str "skip")])
  c_SHUT : CnIn K mg "SHUT" (.str "shut")
  c_SIZE : CnIn K mg "SIZE" (.int 1000)
  x_NoFraction : ExC K mg "NoFraction"
  x_NoNet : ExC K mg "NoNet"
  x_RestError : ExC K mg "RestError"
  xc_NoNet : XeC K mg "NoNet"
  m_NoNet_NoNet : ExM K mg "NoNet" "NoNet" true
  m_NoNet_RestError : ExM K mg "NoNet" "RestError" true
variable {P : Program} {w : World} {K : PySem.W.Frag} {mg : Str → Option Value} {base : Heap}
theorem sc_common : FnScope ["one", "other"] ["one", "other"] (defScope s_common) := ⟨rfl, rfl, rfl, by decide +kernel, rfl, by decide +kernel, by decide +kernel⟩
theorem ok_common {P : Program} {w : World} {K : PySem.W.Frag} {mg : Str → Option Value} {base : Heap} (T : Txt K mg) : Ok P w K mg base "common" 33 2 none Std.fn_common := by
  refine ok_mk (N := ["one", "other"]) (ps := ["one", "other"]) (fb := Std.fb_common) T.f_common sc_common (by decide) (fun _ _ _ _ _ _ us hl => match us, hl with | [_, _], _ => rfl) (fun f cdv A outer s H E gd hr tk po => ?_)
  exact svs_cons (sv_while po (et_ne hr.units (ev_var 1) ev_int) (svs_one (sv_par (i := 0) (j := 1) rfl sc_common.nd (ea_cons (ev_var 1) (ea_cons (ev_mod (ev_var 0) (ev_var 1)) ea_nil)))))
    (svs_one (sv_ret (eo_move 0)))
theorem sc_fraction : FnScope ["above", "below", "share"] ["above", "below"] (defScope s_fraction) := ⟨rfl, rfl, rfl, by decide +kernel, rfl, by decide +kernel, by decide +kernel⟩
theorem ok_fraction {P : Program} {w : World} {K : PySem.W.Frag} {mg : Str → Option Value} {base : Heap} (T : Txt K mg) : Ok P w K mg base "fraction" 34 2 none Std.fn_fraction := by
  have g_common := ok_common (P := P) (w := w) (base := base) T
  refine ok_mk (N := ["above", "below", "share"]) (ps := ["above", "below"]) (fb := Std.fb_fraction) T.f_fraction sc_fraction (by decide) (fun _ _ _ _ _ _ us hl => match us, hl with | [_, _], _ => rfl) (fun f cdv A outer s H E gd hr tk po => ?_)
  exact svs_cons (sv_if (et_eq hr.units (ev_var 1) ev_int) (svs_one (sv_raise rfl tk T.x_NoFraction)) svs_nil)
    (svs_cons (sv_set (i := 2) (eo_fn g_common gd hr tk (ex_v (ev_abs T.b_abs (ea_cons (ev_var 0) ea_nil)) (ex_v (ev_abs T.b_abs (ea_cons (ev_var 1) ea_nil)) ex_nil))) sc_fraction.nd)
    (svs_cons (sv_if (et_lt (ev_var 1) ev_int) (svs_one (sv_set (i := 2) (eo_of (ev_sub ev_int (ev_var 2))) sc_fraction.nd)) svs_nil)
    (svs_one (sv_ret (eo_of (ev_tup (ea_cons (ev_fdiv gd hr (by decide) (ev_var 0) (ev_var 2)) (ea_cons (ev_fdiv gd hr (by decide) (ev_var 1) (ev_var 2)) ea_nil))))))))
theorem sc_plus : FnScope ["one", "other"] ["one", "other"] (defScope s_plus) := ⟨rfl, rfl, rfl, by decide +kernel, rfl, by decide +kernel, by decide +kernel⟩
theorem ok_plus {P : Program} {w : World} {K : PySem.W.Frag} {mg : Str → Option Value} {base : Heap} (T : Txt K mg) : Ok P w K mg base "plus" 35 2 none Std.fn_plus := by
  have g_fraction := ok_fraction (P := P) (w := w) (base := base) T
  refine ok_mk (N := ["one", "other"]) (ps := ["one", "other"]) (fb := Std.fb_plus) T.f_plus sc_plus (by decide) (fun _ _ _ _ _ _ us hl => match us, hl with | [_, _], _ => rfl) (fun f cdv A outer s H E gd hr tk po => ?_)
  exact svs_one (sv_ret (eo_fn g_fraction gd hr tk (ex_v (ev_add (ev_mul (ev_item (ev_var 0) ev_int) (ev_item (ev_var 1) ev_int)) (ev_mul (ev_item (ev_var 1) ev_int) (ev_item (ev_var 0) ev_int))) (ex_v (ev_mul (ev_item (ev_var 0) ev_int) (ev_item (ev_var 1) ev_int)) ex_nil))))
theorem sc_is_less : FnScope ["one", "other"] ["one", "other"] (defScope s_is_less) := ⟨rfl, rfl, rfl, by decide +kernel, rfl, by decide +kernel, by decide +kernel⟩
theorem ok_is_less {P : Program} {w : World} {K : PySem.W.Frag} {mg : Str → Option Value} {base : Heap} (T : Txt K mg) : Ok P w K mg base "is_less" 33 2 none Std.fn_is_less := by
  refine ok_mk (N := ["one", "other"]) (ps := ["one", "other"]) (fb := Std.fb_is_less) T.f_is_less sc_is_less (by decide) (fun _ _ _ _ _ _ us hl => match us, hl with | [_, _], _ => rfl) (fun f cdv A outer s H E gd hr tk po => ?_)
  exact svs_one (sv_ret (eo_of (ev_lt (ev_mul (ev_item (ev_var 0) ev_int) (ev_item (ev_var 1) ev_int)) (ev_mul (ev_item (ev_var 1) ev_int) (ev_item (ev_var 0) ev_int)))))
theorem sc_total : FnScope ["some", "found", "one"] ["some"] (defScope s_total) := ⟨rfl, rfl, rfl, by decide +kernel, rfl, by decide +kernel, by decide +kernel⟩
theorem ok_total {P : Program} {w : World} {K : PySem.W.Frag} {mg : Str → Option Value} {base : Heap} (T : Txt K mg) : Ok P w K mg base "total" 36 1 none Std.fn_total := by
  have g_plus := ok_plus (P := P) (w := w) (base := base) T
  refine ok_mk (N := ["some", "found", "one"]) (ps := ["some"]) (fb := Std.fb_total) T.f_total sc_total (by decide) (fun _ _ _ _ _ _ us hl => match us, hl with | [_], _ => rfl) (fun f cdv A outer s H E gd hr tk po => ?_)
  exact svs_cons (sv_set (i := 1) (eo_of (ev_const T.c_NOUGHT)) sc_total.nd)
    (svs_cons (sv_for po rfl (iv_list (ev_var 0)) (gv_name (i := 2) sc_total.nd) (svs_one (sv_set (i := 1) (eo_fn g_plus gd hr tk (ex_v (ev_var 1) (ex_v (ev_var 2) ex_nil))) sc_total.nd)))
    (svs_one (sv_ret (eo_move 1))))
abbrev N_ask : List Str := ["good", "words"]
theorem sc_ask : FnScope N_ask ["good", "words"] (defScope s_ask) := ⟨rfl, rfl, rfl, by decide +kernel, rfl, by decide +kernel, by decide +kernel⟩
theorem ok_ask (T : Txt K mg) : Ok P w K mg base "ask" 33 2 none Net.fn_ask := by
  refine ok_mk (N := N_ask) (ps := ["good", "words"]) (fb := Net.fb_ask) T.f_ask sc_ask (by decide) (fun _ _ _ _ _ _ us hl => match us, hl with | [_, _], _ => rfl) (fun f cdv A outer s H E gd hr tk po => ?_)
  exact svs_cons (sv_if (et_not (et_val (ev_var 0))) (svs_one (sv_raiseV rfl tk T.x_NoNet (ev_var 1))) svs_nil)
    svs_nil
abbrev N_ask_fraction : List Str := ["one", "above_nought", "above", "below"]
theorem sc_ask_fraction : FnScope N_ask_fraction ["one", "above_nought"] (defScope s_ask_fraction) := ⟨rfl, rfl, rfl, by decide +kernel, rfl, by decide +kernel, by decide +kernel⟩
theorem ok_ask_fraction (T : Txt K mg) : Ok P w K mg base "ask_fraction" 34 2 none Net.fn_ask_fraction := by
  have g_ask := ok_ask (P := P) (w := w) (base := base) T
  have g_common := ok_common (P := P) (w := w) (base := base) T
  refine ok_mk (N := N_ask_fraction) (ps := ["one", "above_nought"]) (fb := Net.fb_ask_fraction) T.f_ask_fraction sc_ask_fraction (by decide) (fun _ _ _ _ _ _ us hl => match us, hl with | [_, _], _ => rfl) (fun f cdv A outer s H E gd hr tk po => ?_)
  exact svs_cons (sv_asg (ev_var 0) (gv_tup rfl (gvs_cons (gv_name (i := 2) sc_ask_fraction.nd) (gvs_cons (gv_name (i := 3) sc_ask_fraction.nd) gvs_nil))))
    (svs_cons (sv_expr (ev_of (eo_fn g_ask gd hr tk (ex_v (ev_and (ev_chain op_le opd_B op_le opd_B ev_int (ev_var 2) (ev_const T.c_SIZE)) (ev_and (ev_chain op_le opd_B op_le opd_B ev_int (ev_var 3) (ev_const T.c_SIZE)) (ev_one (ev_eq hr.units (ev_of (eo_fn g_common gd hr tk (ex_v (ev_var 2) (ex_v (ev_var 3) ex_nil)))) ev_int)))) (ex_v ev_str ex_nil)))))
    (svs_cons (sv_expr (ev_of (eo_fn g_ask gd hr tk (ex_v (ev_or (ev_gt (ev_var 2) ev_int) (ev_one (ev_not (ev_var 1)))) (ex_v ev_str ex_nil)))))
    svs_nil))
abbrev N_ask_line : List Str := ["line", "one", "speeds", "more", "room", "rule", "other"]
theorem sc_ask_line : FnScope N_ask_line ["line"] (defScope s_ask_line) := ⟨rfl, rfl, rfl, by decide +kernel, rfl, by decide +kernel, by decide +kernel⟩
theorem ok_ask_line (T : Txt K mg) : Ok P w K mg base "ask_line" 35 1 none Net.fn_ask_line := by
  have g_ask := ok_ask (P := P) (w := w) (base := base) T
  have g_ask_fraction := ok_ask_fraction (P := P) (w := w) (base := base) T
  have g_is_less := ok_is_less (P := P) (w := w) (base := base) T
  refine ok_mk (N := N_ask_line) (ps := ["line"]) (fb := Net.fb_ask_line) T.f_ask_line sc_ask_line (by decide) (fun _ _ _ _ _ _ us hl => match us, hl with | [_], _ => rfl) (fun f cdv A outer s H E gd hr tk po => ?_)
  exact svs_cons (sv_asg (ev_var 0) (gv_tup rfl (gvs_cons (gv_name (i := 2) sc_ask_line.nd) (gvs_cons (gv_name (i := 3) sc_ask_line.nd) (gvs_cons (gv_name (i := 4) sc_ask_line.nd) (gvs_cons (gv_name (i := 5) sc_ask_line.nd) gvs_nil))))))
    (svs_cons (sv_expr (ev_of (eo_fn g_ask gd hr tk (ex_v (ev_chain op_le opd_B op_le opd_B ev_int (ev_len T.b_len (ea_cons (ev_var 2) ea_nil)) (ev_const T.c_MOST_SPEEDS)) (ex_v ev_str ex_nil)))))
    (svs_cons (sv_for po rfl (iv_list (ev_var 2)) (gv_name (i := 1) sc_ask_line.nd) (svs_cons (sv_expr (ev_of (eo_fn g_ask_fraction gd hr tk (ex_v (ev_var 1) (ex_v ev_bl ex_nil)))))
    (svs_kill (is := [1]) svs_nil)))
    (svs_cons (sv_for po rfl (iv_zip T.b_zip (ea_cons (ev_of (eo_slice (ev_var 2) ep_none (ep_some (ev_neg ev_int)))) (ea_cons (ev_of (eo_slice (ev_var 2) (ep_some ev_int) ep_none)) ea_nil))) (gv_tup rfl (gvs_cons (gv_name (i := 1) sc_ask_line.nd) (gvs_cons (gv_name (i := 6) sc_ask_line.nd) gvs_nil))) (svs_cons (sv_expr (ev_of (eo_fn g_ask gd hr tk (ex_v (ev_not (ev_of (eo_fn g_is_less gd hr tk (ex_v (ev_var 6) (ex_v (ev_var 1) ex_nil))))) (ex_v ev_str ex_nil)))))
    (svs_kill (is := [1, 6]) svs_nil)))
    (svs_cons (sv_expr (ev_of (eo_fn g_ask_fraction gd hr tk (ex_v (ev_var 3) (ex_v ev_bl ex_nil)))))
    (svs_cons (sv_expr (ev_of (eo_fn g_ask gd hr tk (ex_v (ev_chain op_le opd_B op_le opd_B ev_int (ev_var 4) (ev_const T.c_MOST_ROOM)) (ex_v ev_str ex_nil)))))
    (svs_cons (sv_if (et_eq hr.units (ev_var 4) ev_int) (svs_cons (sv_expr (ev_of (eo_fn g_ask gd hr tk (ex_v (ev_eq hr.units (ev_var 5) ev_str) (ex_v ev_str ex_nil)))))
    svs_nil) (svs_cons (sv_expr (ev_of (eo_fn g_ask gd hr tk (ex_v (ev_in (ev_var 5) (ev_const T.c_RULES)) (ex_v ev_str ex_nil)))))
    svs_nil))
    svs_nil))))))
abbrev N_ask_stand : List Str := ["stand", "lines", "many", "last", "line", "rate", "goes", "to", "share"]
theorem sc_ask_stand : FnScope N_ask_stand ["stand", "lines", "many"] (defScope s_ask_stand) := ⟨rfl, rfl, rfl, by decide +kernel, rfl, by decide +kernel, by decide +kernel⟩
theorem ok_ask_stand (T : Txt K mg) : Ok P w K mg base "ask_stand" 37 3 none Net.fn_ask_stand := by
  have g_ask := ok_ask (P := P) (w := w) (base := base) T
  have g_ask_fraction := ok_ask_fraction (P := P) (w := w) (base := base) T
  have g_is_less := ok_is_less (P := P) (w := w) (base := base) T
  have g_total := ok_total (P := P) (w := w) (base := base) T
  refine ok_mk (N := N_ask_stand) (ps := ["stand", "lines", "many"]) (fb := Net.fb_ask_stand) T.f_ask_stand sc_ask_stand (by decide) (fun _ _ _ _ _ _ us hl => match us, hl with | [_, _, _], _ => rfl) (fun f cdv A outer s H E gd hr tk po => ?_)
  exact svs_cons (sv_asg (ev_var 0) (gv_tup rfl (gvs_cons (gv_name (i := 4) sc_ask_stand.nd) (gvs_cons (gv_name (i := 5) sc_ask_stand.nd) (gvs_cons (gv_name (i := 6) sc_ask_stand.nd) gvs_nil)))))
    (svs_cons (sv_expr (ev_of (eo_fn g_ask gd hr tk (ex_v (ev_chain op_le opd_B op_lt opd_B ev_int (ev_var 4) (ev_var 1)) (ex_v ev_str ex_nil)))))
    (svs_cons (sv_expr (ev_of (eo_fn g_ask_fraction gd hr tk (ex_v (ev_var 5) (ex_v ev_bl ex_nil)))))
    (svs_cons (sv_set (i := 3) (eo_of (ev_neg ev_int)) sc_ask_stand.nd)
    (svs_cons (sv_for po rfl (iv_list (ev_var 6)) (gv_tup rfl (gvs_cons (gv_name (i := 7) sc_ask_stand.nd) (gvs_cons (gv_name (i := 8) sc_ask_stand.nd) gvs_nil))) (svs_cons (sv_expr (ev_of (eo_fn g_ask gd hr tk (ex_v (ev_chain op_lt opd_B op_lt opd_B (ev_var 3) (ev_var 7) (ev_var 2)) (ex_v ev_str ex_nil)))))
    (svs_cons (sv_expr (ev_of (eo_fn g_ask_fraction gd hr tk (ex_v (ev_var 8) (ex_v ev_bl ex_nil)))))
    (svs_cons (sv_set (i := 3) (eo_of (ev_var 7)) sc_ask_stand.nd)
    (svs_kill (is := [7, 8]) svs_nil)))))
    (svs_cons (sv_expr (ev_of (eo_fn g_ask gd hr tk (ex_v (ev_not (ev_of (eo_fn g_is_less gd hr tk (ex_v (ev_const T.c_ONE) (ex_v (ev_of (eo_fn g_total gd hr tk (ex_v (ev_of (eo_lc (own := [("to", 7), ("share", 8)]) rfl sc_ask_stand.nd (iv_list (ev_var 6)) (blkOk_by (own := [("to", 7), ("share", 8)]) (N := N_ask_stand) (sc := (defScope s_ask_stand)) (by decide +kernel)) (fun _ _ _ _ _ => gv_tup rfl (gvs_cons (gv_name (i := 7) sc_ask_stand.nd) (gvs_cons (gv_name (i := 8) sc_ask_stand.nd) gvs_nil))) (fun _ _ _ _ _ => ets_nil) (fun _ _ _ _ _ => ev_var 8))) ex_nil))) ex_nil))))) (ex_v ev_str ex_nil)))))
    svs_nil)))))
abbrev N_ask_rates : List Str := ["lines", "rates", "one", "rooms", "line"]
theorem sc_ask_rates : FnScope N_ask_rates ["lines", "rates"] (defScope s_ask_rates) := ⟨rfl, rfl, rfl, by decide +kernel, rfl, by decide +kernel, by decide +kernel⟩
theorem ok_ask_rates (T : Txt K mg) : Ok P w K mg base "ask_rates" 35 2 none Net.fn_ask_rates := by
  have g_ask_fraction := ok_ask_fraction (P := P) (w := w) (base := base) T
  have g_ask := ok_ask (P := P) (w := w) (base := base) T
  refine ok_mk (N := N_ask_rates) (ps := ["lines", "rates"]) (fb := Net.fb_ask_rates) T.f_ask_rates sc_ask_rates (by decide) (fun _ _ _ _ _ _ us hl => match us, hl with | [_, _], _ => rfl) (fun f cdv A outer s H E gd hr tk po => ?_)
  exact svs_cons (sv_for po rfl (iv_list (ev_var 1)) (gv_name (i := 2) sc_ask_rates.nd) (svs_cons (sv_expr (ev_of (eo_fn g_ask_fraction gd hr tk (ex_v (ev_var 2) (ex_v ev_bl ex_nil)))))
    (svs_kill (is := [2]) svs_nil)))
    (svs_cons (sv_expr (ev_of (eo_fn g_ask gd hr tk (ex_v (ev_ne hr.units (ev_of (eo_lc (own := [("one", 2)]) rfl sc_ask_rates.nd (iv_list (ev_var 1)) (blkOk_by (own := [("one", 2)]) (N := N_ask_rates) (sc := (defScope s_ask_rates)) (by decide +kernel)) (fun _ _ _ _ _ => gv_name (i := 2) sc_ask_rates.nd) (fun _ _ _ _ _ => ets_one (et_ne hr.units (ev_var 2) (ev_const T.c_NOUGHT))) (fun _ _ _ _ _ => ev_var 2))) (ev_of (eo_lst ea_nil))) (ex_v ev_str ex_nil)))))
    (svs_cons (sv_setLc (i := 3) (own := [("line", 4)]) rfl sc_ask_rates.nd (iv_list (ev_var 0)) (blkOk_by (own := [("line", 4)]) (N := N_ask_rates) (sc := (defScope s_ask_rates)) (by decide +kernel)) (fun _ _ _ _ _ => gv_name (i := 4) sc_ask_rates.nd) (fun _ _ _ _ _ => ets_nil) (fun _ _ _ _ _ => ev_item (ev_var 4) ev_int) (sw_true rfl rfl rfl (by decide +kernel)))
    (svs_frz (i := 3) (svs_cons (sv_if (et_eq hr.units (ev_maxL rfl T.b_max (ea_cons (ev_var 3) ea_nil)) ev_int) (svs_cons (sv_expr (ev_of (eo_fn g_ask gd hr tk (ex_v (ev_eq hr.units (ev_of (eo_lc (own := [("line", 4)]) rfl sc_ask_rates.nd (iv_list (ev_var 0)) (blkOk_by (own := [("line", 4)]) (N := N_ask_rates) (sc := (defScope s_ask_rates)) (by decide +kernel)) (fun _ _ _ _ _ => gv_name (i := 4) sc_ask_rates.nd) (fun _ _ _ _ _ => ets_one (et_ne hr.units (ev_item (ev_var 4) ev_int) (ev_const T.c_NOUGHT))) (fun _ _ _ _ _ => ev_var 4))) (ev_of (eo_lst ea_nil))) (ex_v ev_str ex_nil)))))
    svs_nil) (svs_cons (sv_expr (ev_of (eo_fn g_ask gd hr tk (ex_v (ev_gt (ev_minL rfl T.b_min (ea_cons (ev_var 3) ea_nil)) ev_int) (ex_v ev_str ex_nil)))))
    svs_nil))
    svs_nil))))
abbrev N_ask_counts : List Str := ["lines", "stands", "counts", "stand", "number", "line", "many", "count", "to", "share"]
theorem sc_ask_counts : FnScope N_ask_counts ["lines", "stands", "counts"] (defScope s_ask_counts) := ⟨rfl, rfl, rfl, by decide +kernel, rfl, by decide +kernel, by decide +kernel⟩
theorem ok_ask_counts (T : Txt K mg) : Ok P w K mg base "ask_counts" 37 3 none Net.fn_ask_counts := by
  have g_ask := ok_ask (P := P) (w := w) (base := base) T
  have g_total := ok_total (P := P) (w := w) (base := base) T
  refine ok_mk (N := N_ask_counts) (ps := ["lines", "stands", "counts"]) (fb := Net.fb_ask_counts) T.f_ask_counts sc_ask_counts (by decide) (fun _ _ _ _ _ _ us hl => match us, hl with | [_, _, _], _ => rfl) (fun f cdv A outer s H E gd hr tk po => ?_)
  exact svs_cons (sv_expr (ev_of (eo_fn g_ask gd hr tk (ex_v (ev_and (ev_ge (ev_minL rfl T.b_min (ea_cons (ev_var 2) ea_nil)) ev_int) (ev_one (ev_chain op_le opd_B op_le opd_B ev_int (ev_sum rfl T.b_sum (ea_cons (ev_var 2) ea_nil)) (ev_const T.c_MOST_COMERS)))) (ex_v ev_str ex_nil)))))
    (svs_cons (sv_expr (ev_of (eo_fn g_ask gd hr tk (ex_v (ev_eq hr.units (ev_of (eo_lc (own := [("line", 5)]) rfl sc_ask_counts.nd (iv_list (ev_var 0)) (blkOk_by (own := [("line", 5)]) (N := N_ask_counts) (sc := (defScope s_ask_counts)) (by decide +kernel)) (fun _ _ _ _ _ => gv_name (i := 5) sc_ask_counts.nd) (fun _ _ _ _ _ => ets_one (et_eq hr.units (ev_item (ev_var 5) ev_int) ev_str)) (fun _ _ _ _ _ => ev_var 5))) (ev_of (eo_lst ea_nil))) (ex_v ev_str ex_nil)))))
    (svs_cons (sv_for po rfl (iv_list (ev_var 1)) (gv_name (i := 3) sc_ask_counts.nd) (svs_cons (sv_expr (ev_of (eo_fn g_ask gd hr tk (ex_v (ev_eq hr.units (ev_of (eo_fn g_total gd hr tk (ex_v (ev_of (eo_lc (own := [("to", 8), ("share", 9)]) rfl sc_ask_counts.nd (iv_list (ev_item (ev_var 3) ev_int)) (blkOk_by (own := [("to", 8), ("share", 9)]) (N := N_ask_counts) (sc := (defScope s_ask_counts)) (by decide +kernel)) (fun _ _ _ _ _ => gv_tup rfl (gvs_cons (gv_name (i := 8) sc_ask_counts.nd) (gvs_cons (gv_name (i := 9) sc_ask_counts.nd) gvs_nil))) (fun _ _ _ _ _ => ets_nil) (fun _ _ _ _ _ => ev_var 9))) ex_nil))) (ev_const T.c_ONE)) (ex_v ev_str ex_nil)))))
    (svs_kill (is := [3]) svs_nil)))
    (svs_cons (sv_for po rfl (iv_enum T.b_enumerate (ea_cons (ev_var 0) ea_nil)) (gv_tup rfl (gvs_cons (gv_name (i := 4) sc_ask_counts.nd) (gvs_cons (gv_name (i := 5) sc_ask_counts.nd) gvs_nil))) (svs_cons (sv_set (i := 6) (eo_of (ev_sum rfl T.b_sum (ea_cons (ev_of (eo_lc (own := [("count", 7), ("stand", 3)]) rfl sc_ask_counts.nd (iv_zip T.b_zip (ea_cons (ev_var 2) (ea_cons (ev_var 1) ea_nil))) (blkOk_by (own := [("count", 7), ("stand", 3)]) (N := N_ask_counts) (sc := (defScope s_ask_counts)) (by decide +kernel)) (fun _ _ _ _ _ => gv_tup rfl (gvs_cons (gv_name (i := 7) sc_ask_counts.nd) (gvs_cons (gv_name (i := 3) sc_ask_counts.nd) gvs_nil))) (fun _ _ _ _ _ => ets_one (et_eq hr.units (ev_item (ev_var 3) ev_int) (ev_var 4))) (fun _ _ _ _ _ => ev_var 7))) ea_nil))) sc_ask_counts.nd)
    (svs_cons (sv_expr (ev_of (eo_fn g_ask gd hr tk (ex_v (ev_or (ev_eq hr.units (ev_item (ev_var 5) ev_int) ev_int) (ev_one (ev_le (ev_var 6) (ev_item (ev_var 5) ev_int)))) (ex_v ev_str ex_nil)))))
    (svs_kill (is := [4, 5, 6]) svs_nil))))
    svs_nil)))
abbrev N_ask_net : List Str := ["lines", "stands", "comers", "line", "stand", "used", "kind", "numbers"]
theorem sc_ask_net : FnScope N_ask_net ["lines", "stands", "comers"] (defScope s_ask_net) := ⟨rfl, rfl, rfl, by decide +kernel, rfl, by decide +kernel, by decide +kernel⟩
theorem ok_ask_net (T : Txt K mg) : Ok P w K mg base "ask_net" 38 3 none Net.fn_ask_net := by
  have g_ask := ok_ask (P := P) (w := w) (base := base) T
  have g_ask_line := ok_ask_line (P := P) (w := w) (base := base) T
  have g_ask_stand := ok_ask_stand (P := P) (w := w) (base := base) T
  have g_ask_rates := ok_ask_rates (P := P) (w := w) (base := base) T
  have g_ask_counts := ok_ask_counts (P := P) (w := w) (base := base) T
  refine ok_mk (N := N_ask_net) (ps := ["lines", "stands", "comers"]) (fb := Net.fb_ask_net) T.f_ask_net sc_ask_net (by decide) (fun _ _ _ _ _ _ us hl => match us, hl with | [_, _, _], _ => rfl) (fun f cdv A outer s H E gd hr tk po => ?_)
  exact svs_cons (sv_expr (ev_of (eo_fn g_ask gd hr tk (ex_v (ev_and (ev_chain op_le opd_B op_le opd_B ev_int (ev_len T.b_len (ea_cons (ev_var 0) ea_nil)) (ev_const T.c_MOST_LINES)) (ev_one (ev_chain op_le opd_B op_le opd_B ev_int (ev_len T.b_len (ea_cons (ev_var 1) ea_nil)) (ev_const T.c_MOST_STANDS)))) (ex_v ev_str ex_nil)))))
    (svs_cons (sv_for po rfl (iv_list (ev_var 0)) (gv_name (i := 3) sc_ask_net.nd) (svs_cons (sv_expr (ev_of (eo_fn g_ask_line gd hr tk (ex_v (ev_var 3) ex_nil))))
    (svs_kill (is := [3]) svs_nil)))
    (svs_cons (sv_for po rfl (iv_list (ev_var 1)) (gv_name (i := 4) sc_ask_net.nd) (svs_cons (sv_expr (ev_of (eo_fn g_ask_stand gd hr tk (ex_v (ev_var 4) (ex_v (ev_len T.b_len (ea_cons (ev_var 0) ea_nil)) (ex_v (ev_len T.b_len (ea_cons (ev_var 1) ea_nil)) ex_nil))))))
    (svs_kill (is := [4]) svs_nil)))
    (svs_cons (sv_set (i := 5) (eo_lc (own := [("stand", 4)]) rfl sc_ask_net.nd (iv_list (ev_var 1)) (blkOk_by (own := [("stand", 4)]) (N := N_ask_net) (sc := (defScope s_ask_net)) (by decide +kernel)) (fun _ _ _ _ _ => gv_name (i := 4) sc_ask_net.nd) (fun _ _ _ _ _ => ets_nil) (fun _ _ _ _ _ => ev_item (ev_var 4) ev_int)) sc_ask_net.nd)
    (svs_frz (i := 5) (svs_cons (sv_expr (ev_of (eo_fn g_ask gd hr tk (ex_v (ev_eq hr.units (ev_of (eo_lc (own := [("line", 3)]) rfl sc_ask_net.nd (iv_range1 rfl T.b_range (ea_cons (ev_len T.b_len (ea_cons (ev_var 0) ea_nil)) ea_nil)) (blkOk_by (own := [("line", 3)]) (N := N_ask_net) (sc := (defScope s_ask_net)) (by decide +kernel)) (fun _ _ _ _ _ => gv_name (i := 3) sc_ask_net.nd) (fun _ _ _ _ _ => ets_one (et_notin (ev_var 3) (ev_var 5))) (fun _ _ _ _ _ => ev_var 3))) (ev_of (eo_lst ea_nil))) (ex_v ev_str ex_nil)))))
    (svs_cons (sv_asg (ev_var 2) (gv_tup rfl (gvs_cons (gv_name (i := 6) sc_ask_net.nd) (gvs_cons (gv_name (i := 7) sc_ask_net.nd) gvs_nil))))
    (svs_cons (sv_expr (ev_of (eo_fn g_ask gd hr tk (ex_v (ev_and (ev_in (ev_var 6) (ev_tup (ea_cons (ev_const T.c_OPEN) (ea_cons (ev_const T.c_SHUT) ea_nil)))) (ev_one (ev_eq hr.units (ev_len T.b_len (ea_cons (ev_var 7) ea_nil)) (ev_len T.b_len (ea_cons (ev_var 1) ea_nil))))) (ex_v ev_str ex_nil)))))
    (svs_cons (sv_if (et_eq hr.units (ev_var 6) (ev_const T.c_OPEN)) (svs_cons (sv_expr (ev_of (eo_fn g_ask_rates gd hr tk (ex_v (ev_var 0) (ex_v (ev_var 7) ex_nil)))))
    svs_nil) (svs_cons (sv_expr (ev_of (eo_fn g_ask_counts gd hr tk (ex_v (ev_var 0) (ex_v (ev_var 1) (ex_v (ev_var 7) ex_nil))))))
    svs_nil))
    svs_nil))))))))
abbrev N_made_net : List Str := ["lines", "stands", "comers", "made", "speeds", "more", "room", "rule", "line", "rate", "goes"]
theorem sc_made_net : FnScope N_made_net ["lines", "stands", "comers"] (defScope s_made_net) := ⟨rfl, rfl, rfl, by decide +kernel, rfl, by decide +kernel, by decide +kernel⟩
theorem ok_made_net (T : Txt K mg) : Ok P w K mg base "made_net" 39 3 none Net.fn_made_net := by
  have g_ask_net := ok_ask_net (P := P) (w := w) (base := base) T
  refine ok_mk (N := N_made_net) (ps := ["lines", "stands", "comers"]) (fb := Net.fb_made_net) T.f_made_net sc_made_net (by decide) (fun _ _ _ _ _ _ us hl => match us, hl with | [_, _, _], _ => rfl) (fun f cdv A outer s H E gd hr tk po => ?_)
  exact svs_cons (sv_expr (ev_of (eo_fn g_ask_net gd hr tk (ex_v (ev_var 0) (ex_v (ev_var 1) (ex_v (ev_var 2) ex_nil))))))
    (svs_cons (sv_setLc (i := 3) (own := [("speeds", 4), ("more", 5), ("room", 6), ("rule", 7)]) rfl sc_made_net.nd (iv_list (ev_var 0)) (blkOk_by (own := [("speeds", 4), ("more", 5), ("room", 6), ("rule", 7)]) (N := N_made_net) (sc := (defScope s_made_net)) (by decide +kernel)) (fun _ _ _ _ _ => gv_tup rfl (gvs_cons (gv_name (i := 4) sc_made_net.nd) (gvs_cons (gv_name (i := 5) sc_made_net.nd) (gvs_cons (gv_name (i := 6) sc_made_net.nd) (gvs_cons (gv_name (i := 7) sc_made_net.nd) gvs_nil))))) (fun _ _ _ _ _ => ets_nil) (fun _ _ _ _ _ => ev_tup (ea_cons (ev_of (eo_listOf T.b_list (ea_cons (ev_var 4) ea_nil))) (ea_cons (ev_var 5) (ea_cons (ev_var 6) (ea_cons (ev_var 7) ea_nil))))) (sw_true rfl rfl rfl (by decide +kernel)))
    (svs_frz (i := 3) (svs_one (sv_ret (eo_of (ev_tup (ea_cons (ev_var 3) (ea_cons (ev_of (eo_lc (own := [("line", 8), ("rate", 9), ("goes", 10)]) rfl sc_made_net.nd (iv_list (ev_var 1)) (blkOk_by (own := [("line", 8), ("rate", 9), ("goes", 10)]) (N := N_made_net) (sc := (defScope s_made_net)) (by decide +kernel)) (fun _ _ _ _ _ => gv_tup rfl (gvs_cons (gv_name (i := 8) sc_made_net.nd) (gvs_cons (gv_name (i := 9) sc_made_net.nd) (gvs_cons (gv_name (i := 10) sc_made_net.nd) gvs_nil)))) (fun _ _ _ _ _ => ets_nil) (fun _ _ _ _ _ => ev_tup (ea_cons (ev_var 8) (ea_cons (ev_var 9) (ea_cons (ev_of (eo_listOf T.b_list (ea_cons (ev_var 10) ea_nil))) ea_nil)))))) (ea_cons (ev_tup (ea_cons (ev_item (ev_var 2) ev_int) (ea_cons (ev_of (eo_listOf T.b_list (ea_cons (ev_item (ev_var 2) ev_int) ea_nil))) ea_nil))) ea_nil)))))))))
theorem sc__law_stream : FnScope ["_law_script", "_law_k", "_law_cell", "_law_mixed"] ["_law_script", "_law_k"] (defScope s__law_stream) := ⟨rfl, rfl, rfl, by decide +kernel, rfl, by decide +kernel, by decide +kernel⟩
theorem ok__law_stream {P : Program} {w : World} {K : PySem.W.Frag} {mg : Str → Option Value} {base : Heap} (T : Txt K mg) : Ok P w K mg base "_law_stream" 33 2 none Std.fn__law_stream := by
  refine ok_mk (N := ["_law_script", "_law_k", "_law_cell", "_law_mixed"]) (ps := ["_law_script", "_law_k"]) (fb := Std.fb__law_stream) T.f__law_stream sc__law_stream (by decide) (fun _ _ _ _ _ _ us hl => match us, hl with | [_, _], _ => rfl) (fun f cdv A outer s H E gd hr tk po => ?_)
  exact svs_cons (sv_if (et_lt (ev_var 1) (ev_len T.b_len (ea_cons (ev_var 0) ea_nil))) (svs_cons (sv_set (i := 2) (eo_of (ev_item (ev_var 0) (ev_var 1))) sc__law_stream.nd)
    (svs_cons (sv_set (i := 3) (eo_of (ev_add (ev_add (ev_mod (ev_var 2) ev_int) (ev_mul (ev_var 1) (ev_var 1))) ev_int)) sc__law_stream.nd)
    (svs_cons (sv_if (et_lt (ev_var 2) (ev_pow ev_int ev_int)) (svs_one (sv_set (i := 2) (eo_of ev_int) sc__law_stream.nd)) svs_nil)
    (svs_one (sv_ret (eo_lst (ea_cons (ev_var 2) (ea_cons (ev_var 3) ea_nil)))))))) svs_nil)
    (svs_one (sv_ret (eo_lst (ea_cons ev_int (ea_cons (ev_add (ev_mul (ev_var 1) (ev_var 1)) ev_int) ea_nil)))))
theorem sc__law_take : FnScope ["_law_stream_here", "_law_most", "_law_digit"] ["_law_stream_here", "_law_most"] (defScope s__law_take) := ⟨rfl, rfl, rfl, by decide +kernel, rfl, by decide +kernel, by decide +kernel⟩
theorem ok__law_take {P : Program} {w : World} {K : PySem.W.Frag} {mg : Str → Option Value} {base : Heap} (T : Txt K mg) : Ok P w K mg base "_law_take" 33 2 (some 0) Std.fn__law_take := by
  refine ok_mk (N := ["_law_stream_here", "_law_most", "_law_digit"]) (ps := ["_law_stream_here", "_law_most"]) (fb := Std.fb__law_take) T.f__law_take sc__law_take (by decide) (fun _ _ _ _ _ _ us hl => match us, hl with | [_, _], _ => rfl) (fun f cdv A outer s H E gd hr tk po => ?_)
  exact svs_cons (sv_if (et_eq hr.units (ev_peek (i := 0) ev_int) ev_int) (svs_cons (sv_putAt (i := 0) (ev_mod (ev_add (ev_mul (ev_peek (i := 0) ev_int) ev_int) ev_int) ev_int) ev_int)
    (svs_one (sv_ret (eo_of (ev_mod (ev_mod (ev_mul (ev_peek (i := 0) ev_int) (ev_peek (i := 0) ev_int)) ev_int) (ev_var 1)))))) svs_nil)
    (svs_cons (sv_set (i := 2) (eo_of (ev_mod (ev_peek (i := 0) ev_int) (ev_var 1))) sc__law_take.nd)
    (svs_cons (sv_putAt (i := 0) (ev_fdiv gd hr (by decide) (ev_peek (i := 0) ev_int) (ev_var 1)) ev_int)
    (svs_one (sv_ret (eo_move 2)))))
theorem sc__law_fraction : FnScope ["_law_above", "_law_below", "_law_one", "_law_other"] ["_law_above", "_law_below"] (defScope s__law_fraction) := ⟨rfl, rfl, rfl, by decide +kernel, rfl, by decide +kernel, by decide +kernel⟩
theorem ok__law_fraction {P : Program} {w : World} {K : PySem.W.Frag} {mg : Str → Option Value} {base : Heap} (T : Txt K mg) : Ok P w K mg base "_law_fraction" 33 2 none Std.fn__law_fraction := by
  refine ok_mk (N := ["_law_above", "_law_below", "_law_one", "_law_other"]) (ps := ["_law_above", "_law_below"]) (fb := Std.fb__law_fraction) T.f__law_fraction sc__law_fraction (by decide) (fun _ _ _ _ _ _ us hl => match us, hl with | [_, _], _ => rfl) (fun f cdv A outer s H E gd hr tk po => ?_)
  exact svs_cons (sv_set (i := 2) (eo_of (ev_abs T.b_abs (ea_cons (ev_var 0) ea_nil))) sc__law_fraction.nd)
    (svs_cons (sv_set (i := 3) (eo_of (ev_var 1)) sc__law_fraction.nd)
    (svs_cons (sv_while po (et_gt (ev_var 3) ev_int) (svs_one (sv_par (i := 2) (j := 3) rfl sc__law_fraction.nd (ea_cons (ev_var 3) (ea_cons (ev_mod (ev_var 2) (ev_var 3)) ea_nil)))))
    (svs_one (sv_ret (eo_of (ev_tup (ea_cons (ev_fdiv gd hr (by decide) (ev_var 0) (ev_var 2)) (ea_cons (ev_fdiv gd hr (by decide) (ev_var 1) (ev_var 2)) ea_nil))))))))
abbrev N__law_line : List Str := ["_law_stream_here", "_law_kind", "_law_speeds", "_law_k", "_law_below", "_law_room", "_law_rule", "_law_one"]
theorem sc__law_line : FnScope N__law_line ["_law_stream_here", "_law_kind"] (defScope s__law_line) := ⟨rfl, rfl, rfl, by decide +kernel, rfl, by decide +kernel, by decide +kernel⟩
theorem ok__law_line (T : Txt K mg) : Ok P w K mg base "_law_line" 34 2 (some 0) fn__law_line := by
  have g__law_take := ok__law_take (P := P) (w := w) (base := base) T
  have g__law_fraction := ok__law_fraction (P := P) (w := w) (base := base) T
  refine ok_mk (N := N__law_line) (ps := ["_law_stream_here", "_law_kind"]) (fb := fb__law_line) T.f__law_line sc__law_line (by decide) (fun _ _ _ _ _ _ us hl => match us, hl with | [_, _], _ => rfl) (fun f cdv A outer s H E gd hr tk po => ?_)
  exact svs_cons (sv_set (i := 2) (eo_lst (ea_cons (ev_add ev_int (ev_of (eo_fn g__law_take gd hr tk (ex_s 0 (ex_v ev_int ex_nil))))) ea_nil)) sc__law_line.nd)
    (svs_cons (sv_for po rfl (iv_range1 rfl T.b_range (ea_cons (ev_add ev_int (ev_of (eo_fn g__law_take gd hr tk (ex_s 0 (ex_v ev_int ex_nil))))) ea_nil)) (gv_name (i := 3) sc__law_line.nd) (svs_cons (sv_app (i := 2) (ev_add (ev_add (ev_peek (i := 2) (ev_neg ev_int)) ev_int) (ev_of (eo_fn g__law_take gd hr tk (ex_s 0 (ex_v ev_int ex_nil))))))
    (svs_kill (is := [3]) svs_nil)))
    (svs_cons (sv_set (i := 4) (eo_of (ev_add ev_int (ev_of (eo_fn g__law_take gd hr tk (ex_s 0 (ex_v ev_int ex_nil)))))) sc__law_line.nd)
    (svs_cons (sv_set (i := 5) (eo_of ev_int) sc__law_line.nd)
    (svs_cons (sv_set (i := 6) (eo_of ev_str) sc__law_line.nd)
    (svs_cons (sv_if (et_eq hr.units (ev_var 1) ev_str) (svs_cons (sv_set (i := 5) (eo_of (ev_add ev_int (ev_of (eo_fn g__law_take gd hr tk (ex_s 0 (ex_v ev_int ex_nil)))))) sc__law_line.nd)
    (svs_cons (sv_set (i := 6) (eo_of (ev_item (ev_of (eo_lst (ea_cons ev_str (ea_cons ev_str (ea_cons ev_str ea_nil))))) (ev_of (eo_fn g__law_take gd hr tk (ex_s 0 (ex_v ev_int ex_nil)))))) sc__law_line.nd)
    svs_nil)) svs_nil)
    (svs_frz (i := 2) (svs_one (sv_ret (eo_of (ev_tup (ea_cons (ev_of (eo_lc (own := [("_law_one", 7)]) rfl sc__law_line.nd (iv_list (ev_var 2)) (blkOk_by (own := [("_law_one", 7)]) (N := N__law_line) (sc := (defScope s__law_line)) (by decide +kernel)) (fun _ _ _ _ _ => gv_name (i := 7) sc__law_line.nd) (fun _ _ _ _ _ => ets_nil) (fun _ _ _ _ _ => ev_of (eo_fn g__law_fraction gd hr takes0 (ex_v (ev_var 7) (ex_v (ev_var 4) ex_nil)))))) (ea_cons (ev_tup (ea_cons ev_int (ea_cons ev_int ea_nil))) (ea_cons (ev_var 5) (ea_cons (ev_var 6) ea_nil))))))))))))))
abbrev N__law_good : List Str := ["_law_stream_here", "_law_kind", "_law_lines", "_law_places", "_law_many", "_law_left", "_law_stands", "_law_place", "_law_row", "_law_rates", "_law_some", "_law_below", "_law_counts", "_law_k", "_law_to"]
theorem sc__law_good : FnScope N__law_good ["_law_stream_here", "_law_kind"] (defScope s__law_good) := ⟨rfl, rfl, rfl, by decide +kernel, rfl, by decide +kernel, by decide +kernel⟩
theorem ok__law_good (T : Txt K mg) : Ok P w K mg base "_law_good" 35 2 (some 0) fn__law_good := by
  have g__law_take := ok__law_take (P := P) (w := w) (base := base) T
  have g__law_line := ok__law_line (P := P) (w := w) (base := base) T
  refine ok_mk (N := N__law_good) (ps := ["_law_stream_here", "_law_kind"]) (fb := fb__law_good) T.f__law_good sc__law_good (by decide) (fun _ _ _ _ _ _ us hl => match us, hl with | [_, _], _ => rfl) (fun f cdv A outer s H E gd hr tk po => ?_)
  exact svs_cons (sv_set (i := 2) (eo_of (ev_add ev_int (ev_of (eo_fn g__law_take gd hr tk (ex_s 0 (ex_v ev_int ex_nil)))))) sc__law_good.nd)
    (svs_cons (sv_set (i := 3) (eo_of (ev_add (ev_of (eo_listRg1 rfl T.b_list T.b_range (ev_var 2))) (ev_of (eo_lc (own := [("_law_k", 13)]) rfl sc__law_good.nd (iv_range1 rfl T.b_range (ea_cons (ev_of (eo_fn g__law_take gd hr tk (ex_s 0 (ex_v ev_int ex_nil)))) ea_nil)) (blkOk_by (own := [("_law_k", 13)]) (N := N__law_good) (sc := (defScope s__law_good)) (by decide +kernel)) (fun _ _ _ _ _ => gv_name (i := 13) sc__law_good.nd) (fun _ _ _ _ _ => ets_nil) (fun _ _ _ _ _ => ev_of (eo_fn g__law_take gd hr takes0 (ex_s 0 (ex_v (ev_var 2) ex_nil)))))))) sc__law_good.nd)
    (svs_cons (sv_set (i := 4) (eo_of (ev_len T.b_len (ea_cons (ev_var 3) ea_nil))) sc__law_good.nd)
    (svs_cons (sv_set (i := 5) (eo_of (ev_intOf T.b_int (ea_cons (ev_ne hr.units (ev_var 1) ev_str) ea_nil))) sc__law_good.nd)
    (svs_cons (sv_set (i := 6) (eo_lst ea_nil) sc__law_good.nd)
    (svs_cons (sv_for po rfl (iv_list (ev_var 3)) (gv_name (i := 7) sc__law_good.nd) (svs_cons (sv_set (i := 10) (eo_lst (ea_cons (ev_of (eo_fn g__law_take gd hr tk (ex_s 0 (ex_v (ev_var 4) ex_nil)))) ea_nil)) sc__law_good.nd)
    (svs_cons (sv_if (et_lt (ev_add (ev_peek (i := 10) ev_int) ev_int) (ev_var 4)) (svs_cons (sv_app (i := 10) (ev_add (ev_peek (i := 10) ev_int) ev_int))
    svs_nil) svs_nil)
    (svs_cons (sv_set (i := 11) (eo_of (ev_add (ev_lenL (i := 10) T.b_len) (ev_var 5))) sc__law_good.nd)
    (svs_frz (i := 10) (svs_cons (sv_app (i := 6) (ev_tup (ea_cons (ev_var 7) (ea_cons (ev_tup (ea_cons (ev_add ev_int (ev_of (eo_fn g__law_take gd hr tk (ex_s 0 (ex_v ev_int ex_nil))))) (ea_cons ev_int ea_nil))) (ea_cons (ev_of (eo_lc (own := [("_law_to", 14)]) rfl sc__law_good.nd (iv_list (ev_var 10)) (blkOk_by (own := [("_law_to", 14)]) (N := N__law_good) (sc := (defScope s__law_good)) (by decide +kernel)) (fun _ _ _ _ _ => gv_name (i := 14) sc__law_good.nd) (fun _ _ _ _ _ => ets_nil) (fun _ _ _ _ _ => ev_tup (ea_cons (ev_var 14) (ea_cons (ev_tup (ea_cons ev_int (ea_cons (ev_var 11) ea_nil))) ea_nil))))) ea_nil)))))
    (svs_kill (is := [7, 10, 11]) svs_nil)))))))
    (svs_cons (sv_setLc (i := 8) (own := [("_law_k", 13)]) rfl sc__law_good.nd (iv_range1 rfl T.b_range (ea_cons (ev_var 2) ea_nil)) (blkOk_by (own := [("_law_k", 13)]) (N := N__law_good) (sc := (defScope s__law_good)) (by decide +kernel)) (fun _ _ _ _ _ => gv_name (i := 13) sc__law_good.nd) (fun _ _ _ _ _ => ets_nil) (fun _ _ _ _ _ => ev_of (eo_fn g__law_line gd hr takes0 (ex_s 0 (ex_v (ev_var 1) ex_nil)))) (sw_true rfl rfl rfl (by decide +kernel)))
    (svs_frz (i := 6) (svs_frz (i := 8) (svs_cons (sv_if (et_eq hr.units (ev_var 1) ev_str) (svs_cons (sv_set (i := 12) (eo_rep (ev_of (eo_lst (ea_cons ev_int ea_nil))) (ev_var 4)) sc__law_good.nd)
    (svs_cons (sv_putAt (i := 12) (ev_add ev_int (ev_of (eo_fn g__law_take gd hr tk (ex_s 0 (ex_v ev_int ex_nil))))) (ev_of (eo_fn g__law_take gd hr tk (ex_s 0 (ex_v (ev_var 4) ex_nil)))))
    (svs_frz (i := 12) (svs_one (sv_ret (eo_of (ev_tup (ea_cons (ev_var 8) (ea_cons (ev_var 6) (ea_cons (ev_tup (ea_cons ev_str (ea_cons (ev_var 12) ea_nil))) ea_nil)))))))))) svs_nil)
    (svs_cons (sv_set (i := 9) (eo_rep (ev_of (eo_lst (ea_cons (ev_tup (ea_cons ev_int (ea_cons ev_int ea_nil))) ea_nil))) (ev_var 4)) sc__law_good.nd)
    (svs_cons (sv_putAt (i := 9) (ev_tup (ea_cons (ev_add ev_int (ev_mul ev_int (ev_of (eo_fn g__law_take gd hr tk (ex_s 0 (ex_v ev_int ex_nil)))))) (ea_cons ev_int ea_nil))) (ev_of (eo_fn g__law_take gd hr tk (ex_s 0 (ex_v (ev_var 4) ex_nil)))))
    (svs_frz (i := 9) (svs_one (sv_ret (eo_of (ev_tup (ea_cons (ev_var 8) (ea_cons (ev_var 6) (ea_cons (ev_tup (ea_cons ev_str (ea_cons (ev_var 9) ea_nil))) ea_nil)))))))))))))))))))
abbrev N__law_of_line : List Str := ["_law_line_here", "_law_way", "_law_speeds", "_law_more", "_law_room", "_law_rule"]
theorem sc__law_of_line : FnScope N__law_of_line ["_law_line_here", "_law_way"] (defScope s__law_of_line) := ⟨rfl, rfl, rfl, by decide +kernel, rfl, by decide +kernel, by decide +kernel⟩
theorem ok__law_of_line (T : Txt K mg) : Ok P w K mg base "_law_of_line" 33 2 none fn__law_of_line := by
  refine ok_mk (N := N__law_of_line) (ps := ["_law_line_here", "_law_way"]) (fb := fb__law_of_line) T.f__law_of_line sc__law_of_line (by decide) (fun _ _ _ _ _ _ us hl => match us, hl with | [_, _], _ => rfl) (fun f cdv A outer s H E gd hr tk po => ?_)
  exact svs_cons (sv_asg (ev_var 0) (gv_tup rfl (gvs_cons (gv_name (i := 2) sc__law_of_line.nd) (gvs_cons (gv_name (i := 3) sc__law_of_line.nd) (gvs_cons (gv_name (i := 4) sc__law_of_line.nd) (gvs_cons (gv_name (i := 5) sc__law_of_line.nd) gvs_nil))))))
    (svs_cons (sv_if (et_eq hr.units (ev_var 1) ev_int) (svs_one (sv_ret (eo_of (ev_tup (ea_cons (ev_add (ev_of (eo_slice (ev_var 2) ep_none (ep_some (ev_neg ev_int)))) (ev_of (eo_lst (ea_cons (ev_tup (ea_cons ev_int (ea_cons ev_int ea_nil))) ea_nil)))) (ea_cons (ev_var 3) (ea_cons (ev_var 4) (ea_cons (ev_var 5) ea_nil)))))))) svs_nil)
    (svs_cons (sv_if (et_eq hr.units (ev_var 1) ev_int) (svs_one (sv_ret (eo_of (ev_tup (ea_cons (ev_of (eo_lst ea_nil)) (ea_cons (ev_var 3) (ea_cons (ev_var 4) (ea_cons (ev_var 5) ea_nil)))))))) svs_nil)
    (svs_cons (sv_if (et_eq hr.units (ev_var 1) ev_int) (svs_one (sv_ret (eo_of (ev_tup (ea_cons (ev_add (ev_mul (ev_of (eo_lst (ea_cons (ev_item (ev_var 2) ev_int) ea_nil))) (ev_sub ev_int (ev_len T.b_len (ea_cons (ev_var 2) ea_nil)))) (ev_of (eo_slice (ev_var 2) (ep_some ev_int) ep_none))) (ea_cons (ev_var 3) (ea_cons (ev_var 4) (ea_cons (ev_var 5) ea_nil)))))))) svs_nil)
    (svs_cons (sv_if (et_eq hr.units (ev_var 1) ev_int) (svs_one (sv_ret (eo_of (ev_tup (ea_cons (ev_add (ev_var 2) (ev_of (eo_slice (ev_var 2) ep_none (ep_some ev_int)))) (ea_cons (ev_var 3) (ea_cons (ev_var 4) (ea_cons (ev_var 5) ea_nil)))))))) svs_nil)
    (svs_cons (sv_if (et_eq hr.units (ev_var 1) ev_int) (svs_one (sv_ret (eo_of (ev_tup (ea_cons (ev_add (ev_of (eo_lst (ea_cons (ev_tup (ea_cons ev_int (ea_cons ev_int ea_nil))) ea_nil))) (ev_of (eo_slice (ev_var 2) (ep_some ev_int) ep_none))) (ea_cons (ev_var 3) (ea_cons (ev_var 4) (ea_cons (ev_var 5) ea_nil)))))))) svs_nil)
    (svs_cons (sv_if (et_eq hr.units (ev_var 1) ev_int) (svs_one (sv_ret (eo_of (ev_tup (ea_cons (ev_add (ev_of (eo_slice (ev_var 2) ep_none (ep_some (ev_neg ev_int)))) (ev_of (eo_lst (ea_cons (ev_tup (ea_cons ev_int (ea_cons ev_int ea_nil))) ea_nil)))) (ea_cons (ev_var 3) (ea_cons (ev_var 4) (ea_cons (ev_var 5) ea_nil)))))))) svs_nil)
    (svs_cons (sv_if (et_eq hr.units (ev_var 1) ev_int) (svs_one (sv_ret (eo_of (ev_tup (ea_cons (ev_add (ev_of (eo_lst (ea_cons (ev_tup (ea_cons ev_int (ea_cons ev_int ea_nil))) ea_nil))) (ev_of (eo_slice (ev_var 2) (ep_some ev_int) ep_none))) (ea_cons (ev_var 3) (ea_cons (ev_var 4) (ea_cons (ev_var 5) ea_nil)))))))) svs_nil)
    (svs_cons (sv_if (et_eq hr.units (ev_var 1) ev_int) (svs_one (sv_ret (eo_of (ev_tup (ea_cons (ev_var 2) (ea_cons (ev_tup (ea_cons (ev_neg ev_int) (ea_cons ev_int ea_nil))) (ea_cons (ev_var 4) (ea_cons (ev_var 5) ea_nil)))))))) svs_nil)
    (svs_cons (sv_if (et_eq hr.units (ev_var 1) ev_int) (svs_one (sv_ret (eo_of (ev_tup (ea_cons (ev_var 2) (ea_cons (ev_var 3) (ea_cons (ev_item (ev_of (eo_lst (ea_cons (ev_neg ev_int) (ea_cons ev_int ea_nil)))) (ev_intOf T.b_int (ea_cons (ev_ne hr.units (ev_var 5) ev_str) ea_nil))) (ea_cons (ev_var 5) ea_nil)))))))) svs_nil)
    (svs_cons (sv_if (et_eq hr.units (ev_var 1) ev_int) (svs_one (sv_ret (eo_of (ev_tup (ea_cons (ev_var 2) (ea_cons (ev_var 3) (ea_cons (ev_var 4) (ea_cons (ev_item (ev_of (eo_lst (ea_cons ev_str (ea_cons ev_str ea_nil)))) (ev_intOf T.b_int (ea_cons (ev_gt (ev_var 4) ev_int) ea_nil))) ea_nil)))))))) svs_nil)
    (svs_cons (sv_if (et_eq hr.units (ev_var 1) ev_int) (svs_one (sv_ret (eo_of (ev_tup (ea_cons (ev_var 2) (ea_cons (ev_var 3) (ea_cons ev_int (ea_cons (ev_item (ev_of (eo_lst (ea_cons ev_str (ea_cons ev_str (ea_cons ev_str (ea_cons ev_str ea_nil)))))) (ev_mod (ev_len T.b_len (ea_cons (ev_var 2) ea_nil)) ev_int)) ea_nil)))))))) svs_nil)
    (svs_cons (sv_if (et_eq hr.units (ev_var 1) ev_int) (svs_one (sv_ret (eo_of (ev_tup (ea_cons (ev_var 2) (ea_cons (ev_item (ev_of (eo_lst (ea_cons (ev_tup (ea_cons ev_int (ea_cons ev_int ea_nil))) (ea_cons (ev_tup (ea_cons ev_int (ea_cons ev_int ea_nil))) (ea_cons (ev_tup (ea_cons ev_int (ea_cons ev_int ea_nil))) ea_nil))))) (ev_mod (ev_len T.b_len (ea_cons (ev_var 2) ea_nil)) ev_int)) (ea_cons (ev_var 4) (ea_cons (ev_var 5) ea_nil)))))))) svs_nil)
    (svs_one (sv_ret (eo_of (ev_tup (ea_cons (ev_add (ev_of (eo_lst (ea_cons (ev_tup (ea_cons (ev_neg ev_int) (ea_cons ev_int ea_nil))) ea_nil))) (ev_of (eo_slice (ev_var 2) (ep_some ev_int) ep_none))) (ea_cons (ev_var 3) (ea_cons (ev_var 4) (ea_cons (ev_var 5) ea_nil))))))))))))))))))))
abbrev N__law_of_stand : List Str := ["_law_stand", "_law_way", "_law_lines", "_law_many", "_law_line_here", "_law_rate", "_law_goes"]
theorem sc__law_of_stand : FnScope N__law_of_stand ["_law_stand", "_law_way", "_law_lines", "_law_many"] (defScope s__law_of_stand) := ⟨rfl, rfl, rfl, by decide +kernel, rfl, by decide +kernel, by decide +kernel⟩
theorem ok__law_of_stand (T : Txt K mg) : Ok P w K mg base "_law_of_stand" 33 4 none fn__law_of_stand := by
  refine ok_mk (N := N__law_of_stand) (ps := ["_law_stand", "_law_way", "_law_lines", "_law_many"]) (fb := fb__law_of_stand) T.f__law_of_stand sc__law_of_stand (by decide) (fun _ _ _ _ _ _ us hl => match us, hl with | [_, _, _, _], _ => rfl) (fun f cdv A outer s H E gd hr tk po => ?_)
  exact svs_cons (sv_asg (ev_var 0) (gv_tup rfl (gvs_cons (gv_name (i := 4) sc__law_of_stand.nd) (gvs_cons (gv_name (i := 5) sc__law_of_stand.nd) (gvs_cons (gv_name (i := 6) sc__law_of_stand.nd) gvs_nil)))))
    (svs_cons (sv_if (et_eq hr.units (ev_var 1) ev_int) (svs_one (sv_ret (eo_of (ev_tup (ea_cons (ev_item (ev_of (eo_lst (ea_cons (ev_neg ev_int) (ea_cons (ev_var 2) ea_nil)))) (ev_mod (ev_len T.b_len (ea_cons (ev_var 6) ea_nil)) ev_int)) (ea_cons (ev_var 5) (ea_cons (ev_var 6) ea_nil))))))) svs_nil)
    (svs_cons (sv_if (et_eq hr.units (ev_var 1) ev_int) (svs_one (sv_ret (eo_of (ev_tup (ea_cons (ev_var 4) (ea_cons (ev_item (ev_of (eo_lst (ea_cons (ev_tup (ea_cons ev_int (ea_cons ev_int ea_nil))) (ea_cons (ev_tup (ea_cons (ev_neg ev_int) (ea_cons ev_int ea_nil))) ea_nil)))) (ev_mod (ev_len T.b_len (ea_cons (ev_var 6) ea_nil)) ev_int)) (ea_cons (ev_var 6) ea_nil))))))) svs_nil)
    (svs_cons (sv_if (et_eq hr.units (ev_var 1) ev_int) (svs_one (sv_ret (eo_of (ev_tup (ea_cons (ev_var 4) (ea_cons (ev_var 5) (ea_cons (ev_add (ev_var 6) (ev_of (eo_lst (ea_cons (ev_item (ev_var 6) (ev_neg ev_int)) ea_nil)))) ea_nil))))))) svs_nil)
    (svs_cons (sv_if (et_eq hr.units (ev_var 1) ev_int) (svs_one (sv_ret (eo_of (ev_tup (ea_cons (ev_var 4) (ea_cons (ev_var 5) (ea_cons (ev_of (eo_lst (ea_cons (ev_tup (ea_cons ev_int (ea_cons (ev_tup (ea_cons ev_int (ea_cons ev_int ea_nil))) ea_nil))) (ea_cons (ev_tup (ea_cons (ev_var 3) (ea_cons (ev_tup (ea_cons ev_int (ea_cons ev_int ea_nil))) ea_nil))) ea_nil)))) ea_nil))))))) svs_nil)
    (svs_cons (sv_if (et_eq hr.units (ev_var 1) ev_int) (svs_one (sv_ret (eo_of (ev_tup (ea_cons (ev_var 4) (ea_cons (ev_var 5) (ea_cons (ev_add (ev_of (eo_lst (ea_cons (ev_tup (ea_cons (ev_neg ev_int) (ea_cons (ev_tup (ea_cons ev_int (ea_cons ev_int ea_nil))) ea_nil))) ea_nil))) (ev_var 6)) ea_nil))))))) svs_nil)
    (svs_cons (sv_if (et_eq hr.units (ev_var 1) ev_int) (svs_one (sv_ret (eo_of (ev_tup (ea_cons (ev_var 4) (ea_cons (ev_var 5) (ea_cons (ev_add (ev_of (eo_slice (ev_var 6) ep_none (ep_some (ev_neg ev_int)))) (ev_of (eo_lst (ea_cons (ev_tup (ea_cons (ev_item (ev_item (ev_var 6) (ev_neg ev_int)) ev_int) (ea_cons (ev_tup (ea_cons ev_int (ea_cons ev_int ea_nil))) ea_nil))) ea_nil)))) ea_nil))))))) svs_nil)
    (svs_cons (sv_if (et_eq hr.units (ev_var 1) ev_int) (svs_one (sv_ret (eo_of (ev_tup (ea_cons (ev_var 4) (ea_cons (ev_var 5) (ea_cons (ev_add (ev_of (eo_slice (ev_var 6) ep_none (ep_some (ev_neg ev_int)))) (ev_of (eo_lst (ea_cons (ev_tup (ea_cons (ev_item (ev_item (ev_var 6) (ev_neg ev_int)) ev_int) (ea_cons (ev_tup (ea_cons ev_int (ea_cons ev_int ea_nil))) ea_nil))) ea_nil)))) ea_nil))))))) svs_nil)
    (svs_cons (sv_if (et_eq hr.units (ev_var 1) ev_int) (svs_one (sv_ret (eo_of (ev_tup (ea_cons (ev_var 4) (ea_cons (ev_item (ev_of (eo_lst (ea_cons (ev_tup (ea_cons ev_int (ea_cons ev_int ea_nil))) (ea_cons (ev_tup (ea_cons ev_int (ea_cons ev_int ea_nil))) (ea_cons (ev_tup (ea_cons ev_int (ea_cons ev_int ea_nil))) ea_nil))))) (ev_add (ev_mod (ev_len T.b_len (ea_cons (ev_var 6) ea_nil)) ev_int) (ev_intOf T.b_int (ea_cons (ev_gt (ev_var 3) ev_int) ea_nil)))) (ea_cons (ev_var 6) ea_nil))))))) svs_nil)
    (svs_cons (sv_if (et_eq hr.units (ev_var 1) ev_int) (svs_one (sv_ret (eo_of (ev_tup (ea_cons (ev_var 4) (ea_cons (ev_var 5) (ea_cons (ev_add (ev_of (eo_slice (ev_var 6) ep_none (ep_some (ev_neg ev_int)))) (ev_of (eo_lst (ea_cons (ev_tup (ea_cons (ev_item (ev_item (ev_var 6) (ev_neg ev_int)) ev_int) (ea_cons (ev_item (ev_of (eo_lst (ea_cons (ev_tup (ea_cons ev_int (ea_cons ev_int ea_nil))) (ea_cons (ev_tup (ea_cons ev_int (ea_cons ev_int ea_nil))) (ea_cons (ev_tup (ea_cons (ev_neg ev_int) (ea_cons ev_int ea_nil))) ea_nil))))) (ev_mod (ev_var 3) ev_int)) ea_nil))) ea_nil)))) ea_nil))))))) svs_nil)
    (svs_cons (sv_if (et_w (ew_and (et_eq hr.units (ev_var 1) ev_int) (ew_and1 (et_gt (ev_var 3) ev_int)))) (svs_one (sv_ret (eo_of (ev_tup (ea_cons (ev_var 4) (ea_cons (ev_var 5) (ea_cons (ev_of (eo_lst (ea_cons (ev_tup (ea_cons ev_int (ea_cons (ev_tup (ea_cons ev_int (ea_cons ev_int ea_nil))) ea_nil))) (ea_cons (ev_tup (ea_cons (ev_sub (ev_var 3) ev_int) (ea_cons (ev_tup (ea_cons ev_int (ea_cons ev_int ea_nil))) ea_nil))) ea_nil)))) ea_nil))))))) svs_nil)
    (svs_cons (sv_if (et_gt (ev_var 3) ev_int) (svs_one (sv_ret (eo_of (ev_tup (ea_cons (ev_var 4) (ea_cons (ev_var 5) (ea_cons (ev_of (eo_lst (ea_cons (ev_tup (ea_cons ev_int (ea_cons (ev_tup (ea_cons ev_int (ea_cons ev_int ea_nil))) ea_nil))) (ea_cons (ev_tup (ea_cons ev_int (ea_cons (ev_tup (ea_cons ev_int (ea_cons ev_int ea_nil))) ea_nil))) ea_nil)))) ea_nil))))))) svs_nil)
    (svs_one (sv_ret (eo_of (ev_tup (ea_cons (ev_var 4) (ea_cons (ev_var 5) (ea_cons (ev_of (eo_lst (ea_cons (ev_tup (ea_cons ev_int (ea_cons (ev_tup (ea_cons ev_int (ea_cons ev_int ea_nil))) ea_nil))) ea_nil))) ea_nil))))))))))))))))))
abbrev N__law_of_comers : List Str := ["_law_comers", "_law_way", "_law_word", "_law_numbers", "_law_some", "_law_one"]
theorem sc__law_of_comers : FnScope N__law_of_comers ["_law_comers", "_law_way"] (defScope s__law_of_comers) := ⟨rfl, rfl, rfl, by decide +kernel, rfl, by decide +kernel, by decide +kernel⟩
theorem ok__law_of_comers (T : Txt K mg) : Ok P w K mg base "_law_of_comers" 33 2 none fn__law_of_comers := by
  refine ok_mk (N := N__law_of_comers) (ps := ["_law_comers", "_law_way"]) (fb := fb__law_of_comers) T.f__law_of_comers sc__law_of_comers (by decide) (fun _ _ _ _ _ _ us hl => match us, hl with | [_, _], _ => rfl) (fun f cdv A outer s H E gd hr tk po => ?_)
  exact svs_cons (sv_asg (ev_var 0) (gv_tup rfl (gvs_cons (gv_name (i := 2) sc__law_of_comers.nd) (gvs_cons (gv_name (i := 3) sc__law_of_comers.nd) gvs_nil))))
    (svs_cons (sv_if (et_eq hr.units (ev_var 1) ev_int) (svs_one (sv_ret (eo_of (ev_tup (ea_cons (ev_item (ev_of (eo_lst (ea_cons ev_str (ea_cons ev_str (ea_cons ev_str (ea_cons ev_str ea_nil)))))) (ev_mod (ev_len T.b_len (ea_cons (ev_var 3) ea_nil)) ev_int)) (ea_cons (ev_var 3) ea_nil)))))) svs_nil)
    (svs_cons (sv_if (et_eq hr.units (ev_var 1) ev_int) (svs_one (sv_ret (eo_of (ev_tup (ea_cons (ev_var 2) (ea_cons (ev_of (eo_slice (ev_var 3) ep_none (ep_some (ev_neg ev_int)))) ea_nil)))))) svs_nil)
    (svs_cons (sv_if (et_eq hr.units (ev_var 1) ev_int) (svs_one (sv_ret (eo_of (ev_tup (ea_cons (ev_var 2) (ea_cons (ev_add (ev_var 3) (ev_of (eo_slice (ev_var 3) ep_none (ep_some ev_int)))) ea_nil)))))) svs_nil)
    (svs_cons (sv_if (et_eq hr.units (ev_var 2) ev_str) (svs_cons (sv_set (i := 4) (eo_of (ev_item (ev_of (eo_lst (ea_cons (ev_of (eo_lst (ea_cons (ev_tup (ea_cons ev_int (ea_cons ev_int ea_nil))) ea_nil))) (ea_cons (ev_of (eo_lst (ea_cons (ev_tup (ea_cons (ev_neg ev_int) (ea_cons ev_int ea_nil))) ea_nil))) (ea_cons (ev_of (eo_lst (ea_cons (ev_tup (ea_cons ev_int (ea_cons ev_int ea_nil))) ea_nil))) (ea_cons (ev_of (eo_lst (ea_cons (ev_tup (ea_cons ev_int (ea_cons ev_int ea_nil))) ea_nil))) (ea_cons (ev_of (eo_lst (ea_cons (ev_tup (ea_cons ev_int (ea_cons ev_int ea_nil))) ea_nil))) ea_nil))))))) (ev_mod (ev_var 1) ev_int))) sc__law_of_comers.nd)
    (svs_cons (sv_if (et_eq hr.units (ev_var 4) (ev_of (eo_lst (ea_cons (ev_tup (ea_cons ev_int (ea_cons ev_int ea_nil))) ea_nil)))) (svs_one (sv_ret (eo_of (ev_tup (ea_cons (ev_var 2) (ea_cons (ev_mul (ev_var 4) (ev_len T.b_len (ea_cons (ev_var 3) ea_nil))) ea_nil)))))) svs_nil)
    (svs_one (sv_ret (eo_of (ev_tup (ea_cons (ev_var 2) (ea_cons (ev_add (ev_of (eo_slice (ev_var 3) ep_none (ep_some (ev_neg ev_int)))) (ev_var 4)) ea_nil)))))))) svs_nil)
    (svs_cons (sv_if (et_eq hr.units (ev_mod (ev_var 1) ev_int) ev_int) (svs_one (sv_ret (eo_of (ev_tup (ea_cons (ev_var 2) (ea_cons (ev_mul (ev_of (eo_lst (ea_cons ev_int ea_nil))) (ev_len T.b_len (ea_cons (ev_var 3) ea_nil))) ea_nil)))))) svs_nil)
    (svs_cons (sv_if (et_w (ew_and (et_eq hr.units (ev_mod (ev_var 1) ev_int) ev_int) (ew_and1 (et_gt (ev_len T.b_len (ea_cons (ev_var 3) ea_nil)) ev_int)))) (svs_one (sv_ret (eo_of (ev_tup (ea_cons (ev_var 2) (ea_cons (ev_add (ev_of (eo_lst (ea_cons ev_int (ea_cons ev_int ea_nil)))) (ev_mul (ev_of (eo_lst (ea_cons ev_int ea_nil))) (ev_sub (ev_len T.b_len (ea_cons (ev_var 3) ea_nil)) ev_int))) ea_nil)))))) svs_nil)
    (svs_cons (sv_if (et_eq hr.units (ev_mod (ev_var 1) ev_int) ev_int) (svs_one (sv_ret (eo_of (ev_tup (ea_cons (ev_var 2) (ea_cons (ev_of (eo_lst (ea_cons ev_int ea_nil))) ea_nil)))))) svs_nil)
    (svs_one (sv_ret (eo_of (ev_tup (ea_cons (ev_var 2) (ea_cons (ev_add (ev_of (eo_lst (ea_cons (ev_neg ev_int) ea_nil))) (ev_of (eo_lc (own := [("_law_one", 5)]) rfl sc__law_of_comers.nd (iv_list (ev_of (eo_slice (ev_var 3) (ep_some ev_int) ep_none))) (blkOk_by (own := [("_law_one", 5)]) (N := N__law_of_comers) (sc := (defScope s__law_of_comers)) (by decide +kernel)) (fun _ _ _ _ _ => gv_name (i := 5) sc__law_of_comers.nd) (fun _ _ _ _ _ => ets_nil) (fun _ _ _ _ _ => ev_add (ev_var 5) ev_int)))) ea_nil)))))))))))))
abbrev N__law_by_kind : List Str := ["_law_stream_here", "_law_handed", "_law_kind", "_law_at", "_law_way", "_law_begins", "_law_row", "_law_stands", "_law_comers", "_law_speeds", "_law_more", "_law_room", "_law_rule", "_law_line_here", "_law_k", "_law_one", "_law_n"]
theorem sc__law_by_kind : FnScope N__law_by_kind ["_law_stream_here", "_law_handed", "_law_kind"] (defScope s__law_by_kind) := ⟨rfl, rfl, rfl, by decide +kernel, rfl, by decide +kernel, by decide +kernel⟩
theorem ok__law_by_kind (T : Txt K mg) : Ok P w K mg base "_law_by_kind" 34 3 (some 0) fn__law_by_kind := by
  have g__law_take := ok__law_take (P := P) (w := w) (base := base) T
  refine ok_mk (N := N__law_by_kind) (ps := ["_law_stream_here", "_law_handed", "_law_kind"]) (fb := fb__law_by_kind) T.f__law_by_kind sc__law_by_kind (by decide) (fun _ _ _ _ _ _ us hl => match us, hl with | [_, _, _], _ => rfl) (fun f cdv A outer s H E gd hr tk po => ?_)
  exact svs_cons (sv_asg (ev_var 1) (gv_tup rfl (gvs_cons (gv_name (i := 6) sc__law_by_kind.nd) (gvs_cons (gv_name (i := 7) sc__law_by_kind.nd) (gvs_cons (gv_name (i := 8) sc__law_by_kind.nd) gvs_nil)))))
    (svs_cons (sv_set (i := 3) (eo_fn g__law_take gd hr tk (ex_s 0 (ex_v (ev_len T.b_len (ea_cons (ev_var 6) ea_nil)) ex_nil))) sc__law_by_kind.nd)
    (svs_cons (sv_asg (ev_item (ev_var 6) (ev_var 3)) (gv_tup rfl (gvs_cons (gv_name (i := 9) sc__law_by_kind.nd) (gvs_cons (gv_name (i := 10) sc__law_by_kind.nd) (gvs_cons (gv_name (i := 11) sc__law_by_kind.nd) (gvs_cons (gv_name (i := 12) sc__law_by_kind.nd) gvs_nil))))))
    (svs_cons (sv_if (et_eq hr.units (ev_var 2) ev_str) (svs_cons (sv_set (i := 13) (eo_of (ev_item (ev_of (eo_lst (ea_cons (ev_tup (ea_cons (ev_var 9) (ea_cons (ev_tup (ea_cons ev_int (ea_cons ev_int ea_nil))) (ea_cons ev_int (ea_cons ev_str ea_nil))))) (ea_cons (ev_tup (ea_cons (ev_var 9) (ea_cons (ev_var 10) (ea_cons ev_int (ea_cons ev_str ea_nil))))) ea_nil)))) (ev_of (eo_fn g__law_take gd hr tk (ex_s 0 (ex_v ev_int ex_nil)))))) sc__law_by_kind.nd)
    (svs_cons (sv_if (et_eq hr.units (ev_len T.b_len (ea_cons (ev_var 6) ea_nil)) ev_int) (svs_cons (sv_set (i := 13) (eo_of (ev_tup (ea_cons (ev_var 9) (ea_cons (ev_tup (ea_cons ev_int (ea_cons ev_int ea_nil))) (ea_cons ev_int (ea_cons ev_str ea_nil)))))) sc__law_by_kind.nd)
    svs_nil) svs_nil)
    (svs_one (sv_ret (eo_of (ev_tup (ea_cons (ev_add (ev_add (ev_of (eo_slice (ev_var 6) ep_none (ep_some (ev_var 3)))) (ev_of (eo_lst (ea_cons (ev_var 13) ea_nil)))) (ev_of (eo_slice (ev_var 6) (ep_some (ev_add (ev_var 3) ev_int)) ep_none))) (ea_cons (ev_var 7) (ea_cons (ev_var 8) ea_nil))))))))) svs_nil)
    (svs_cons (sv_if (et_eq hr.units (ev_var 2) ev_str) (svs_one (sv_ret (eo_of (ev_tup (ea_cons (ev_add (ev_var 6) (ev_of (eo_lst (ea_cons (ev_tup (ea_cons (ev_var 9) (ea_cons (ev_var 10) (ea_cons ev_int (ea_cons ev_str ea_nil))))) ea_nil)))) (ea_cons (ev_add (ev_var 7) (ev_of (eo_lst (ea_cons (ev_tup (ea_cons (ev_len T.b_len (ea_cons (ev_var 6) ea_nil)) (ea_cons (ev_tup (ea_cons ev_int (ea_cons ev_int ea_nil))) (ea_cons (ev_of (eo_lst ea_nil)) ea_nil)))) ea_nil)))) (ea_cons (ev_tup (ea_cons ev_str (ea_cons (ev_add (ev_item (ev_var 8) ev_int) (ev_of (eo_lst (ea_cons (ev_tup (ea_cons ev_int (ea_cons ev_int ea_nil))) ea_nil)))) ea_nil))) ea_nil))))))) svs_nil)
    (svs_cons (sv_set (i := 4) (eo_fn g__law_take gd hr tk (ex_s 0 (ex_v ev_int ex_nil))) sc__law_by_kind.nd)
    (svs_cons (sv_if (et_eq hr.units (ev_var 4) ev_int) (svs_one (sv_ret (eo_of (ev_tup (ea_cons (ev_var 6) (ea_cons (ev_add (ev_of (eo_lst (ea_cons (ev_tup (ea_cons (ev_item (ev_item (ev_var 7) ev_int) ev_int) (ea_cons (ev_item (ev_item (ev_var 7) ev_int) ev_int) (ea_cons (ev_of (eo_lst (ea_cons (ev_tup (ea_cons ev_int (ea_cons (ev_tup (ea_cons ev_int (ea_cons ev_int ea_nil))) ea_nil))) ea_nil))) ea_nil)))) ea_nil))) (ev_of (eo_slice (ev_var 7) (ep_some ev_int) ep_none))) (ea_cons (ev_var 8) ea_nil))))))) svs_nil)
    (svs_cons (sv_if (et_eq hr.units (ev_var 4) ev_int) (svs_one (sv_ret (eo_of (ev_tup (ea_cons (ev_add (ev_add (ev_of (eo_slice (ev_var 6) ep_none (ep_some (ev_var 3)))) (ev_of (eo_lst (ea_cons (ev_tup (ea_cons (ev_var 9) (ea_cons (ev_var 10) (ea_cons ev_int (ea_cons ev_str ea_nil))))) ea_nil)))) (ev_of (eo_slice (ev_var 6) (ep_some (ev_add (ev_var 3) ev_int)) ep_none))) (ea_cons (ev_var 7) (ea_cons (ev_var 8) ea_nil))))))) svs_nil)
    (svs_cons (sv_setLc (i := 5) (own := [("_law_k", 14)]) rfl sc__law_by_kind.nd (iv_range1 rfl T.b_range (ea_cons (ev_len T.b_len (ea_cons (ev_var 6) ea_nil)) ea_nil)) (blkOk_by (own := [("_law_k", 14)]) (N := N__law_by_kind) (sc := (defScope s__law_by_kind)) (by decide +kernel)) (fun _ _ _ _ _ => gv_name (i := 14) sc__law_by_kind.nd) (fun _ _ _ _ _ => ets_nil) (fun _ _ _ _ _ => ev_sum rfl T.b_sum (ea_cons (ev_of (eo_lc (own := [("_law_n", 16), ("_law_one", 15)]) rfl sc__law_by_kind.nd (iv_zip T.b_zip (ea_cons (ev_item (ev_var 8) ev_int) (ea_cons (ev_var 7) ea_nil))) (blkOk_by (own := [("_law_n", 16), ("_law_one", 15)]) (by dsimp only [L2.Cx.blk, compEnvC, cxOf, envOfC, relabel_eq]; decide +kernel)) (fun _ _ _ _ _ => gv_tup rfl (gvs_cons (gv_name (i := 16) sc__law_by_kind.nd) (gvs_cons (gv_name (i := 15) sc__law_by_kind.nd) gvs_nil))) (fun _ _ _ _ _ => ets_one (et_eq hr.units (ev_item (ev_var 15) ev_int) (ev_var 14))) (fun _ _ _ _ _ => ev_var 16))) ea_nil)) (sw_true rfl rfl rfl (by decide +kernel)))
    (svs_cons (sv_set (i := 3) (eo_of (ev_th 5 (ev_indexL (i := 5) (ev_maxL rfl T.b_max (ea_cons (ev_var 5) ea_nil))))) sc__law_by_kind.nd)
    (svs_cons (sv_if (et_eq hr.units (ev_peek (i := 5) (ev_var 3)) ev_int) (svs_cons (sv_set (i := 8) (eo_of (ev_tup (ea_cons ev_str (ea_cons (ev_of (eo_lc (own := [("_law_one", 15)]) rfl sc__law_by_kind.nd (iv_list (ev_item (ev_var 8) ev_int)) (blkOk_by (own := [("_law_one", 15)]) (N := N__law_by_kind) (sc := (defScope s__law_by_kind)) (by decide +kernel)) (fun _ _ _ _ _ => gv_name (i := 15) sc__law_by_kind.nd) (fun _ _ _ _ _ => ets_nil) (fun _ _ _ _ _ => ev_mul ev_int (ev_var 15)))) ea_nil)))) sc__law_by_kind.nd)
    (svs_cons (sv_putAt (i := 5) ev_int (ev_var 3))
    svs_nil)) svs_nil)
    (svs_one (sv_ret (eo_of (ev_tup (ea_cons (ev_add (ev_add (ev_of (eo_slice (ev_var 6) ep_none (ep_some (ev_var 3)))) (ev_of (eo_lst (ea_cons (ev_tup (ea_cons (ev_item (ev_item (ev_var 6) (ev_var 3)) ev_int) (ea_cons (ev_var 10) (ea_cons (ev_sub (ev_peek (i := 5) (ev_var 3)) ev_int) (ea_cons ev_str ea_nil))))) ea_nil)))) (ev_of (eo_slice (ev_var 6) (ep_some (ev_add (ev_var 3) ev_int)) ep_none))) (ea_cons (ev_var 7) (ea_cons (ev_var 8) ea_nil)))))))))))))))))
abbrev N__law_of_whole : List Str := ["_law_stream_here", "_law_handed", "_law_way", "_law_fill", "_law_row", "_law_stands", "_law_comers", "_law_more", "_law_wider", "_law_k"]
theorem sc__law_of_whole : FnScope N__law_of_whole ["_law_stream_here", "_law_handed"] (defScope s__law_of_whole) := ⟨rfl, rfl, rfl, by decide +kernel, rfl, by decide +kernel, by decide +kernel⟩
theorem ok__law_of_whole (T : Txt K mg) : Ok P w K mg base "_law_of_whole" 34 2 (some 0) fn__law_of_whole := by
  have g__law_take := ok__law_take (P := P) (w := w) (base := base) T
  refine ok_mk (N := N__law_of_whole) (ps := ["_law_stream_here", "_law_handed"]) (fb := fb__law_of_whole) T.f__law_of_whole sc__law_of_whole (by decide) (fun _ _ _ _ _ _ us hl => match us, hl with | [_, _], _ => rfl) (fun f cdv A outer s H E gd hr tk po => ?_)
  exact svs_cons (sv_asg (ev_var 1) (gv_tup rfl (gvs_cons (gv_name (i := 4) sc__law_of_whole.nd) (gvs_cons (gv_name (i := 5) sc__law_of_whole.nd) (gvs_cons (gv_name (i := 6) sc__law_of_whole.nd) gvs_nil)))))
    (svs_cons (sv_set (i := 2) (eo_fn g__law_take gd hr tk (ex_s 0 (ex_v ev_int ex_nil))) sc__law_of_whole.nd)
    (svs_cons (sv_set (i := 3) (eo_lst (ea_cons (ev_tup (ea_cons ev_int (ea_cons (ev_tup (ea_cons ev_int (ea_cons ev_int ea_nil))) (ea_cons (ev_of (eo_lst (ea_cons (ev_tup (ea_cons ev_int (ea_cons (ev_tup (ea_cons ev_int (ea_cons ev_int ea_nil))) ea_nil))) ea_nil))) ea_nil)))) ea_nil)) sc__law_of_whole.nd)
    (svs_cons (sv_if (et_eq hr.units (ev_var 2) ev_int) (svs_one (sv_ret (eo_of (ev_tup (ea_cons (ev_of (eo_lst ea_nil)) (ea_cons (ev_var 5) (ea_cons (ev_var 6) ea_nil))))))) svs_nil)
    (svs_cons (sv_if (et_eq hr.units (ev_var 2) ev_int) (svs_one (sv_ret (eo_of (ev_tup (ea_cons (ev_var 4) (ea_cons (ev_of (eo_lst ea_nil)) (ea_cons (ev_tup (ea_cons (ev_item (ev_var 6) ev_int) (ea_cons (ev_of (eo_lst ea_nil)) ea_nil))) ea_nil))))))) svs_nil)
    (svs_cons (sv_if (et_eq hr.units (ev_var 2) ev_int) (svs_cons (sv_set (i := 7) (eo_of (ev_sub ev_int (ev_len T.b_len (ea_cons (ev_var 4) ea_nil)))) sc__law_of_whole.nd)
    (svs_cons (sv_set (i := 8) (eo_of (ev_add (ev_var 5) (ev_of (eo_lc (own := [("_law_k", 9)]) rfl sc__law_of_whole.nd (iv_range1 rfl T.b_range (ea_cons (ev_var 7) ea_nil)) (blkOk_by (own := [("_law_k", 9)]) (N := N__law_of_whole) (sc := (defScope s__law_of_whole)) (by decide +kernel)) (fun _ _ _ _ _ => gv_name (i := 9) sc__law_of_whole.nd) (fun _ _ _ _ _ => ets_nil) (fun _ _ _ _ _ => ev_tup (ea_cons (ev_add (ev_len T.b_len (ea_cons (ev_var 4) ea_nil)) (ev_var 9)) (ea_cons (ev_tup (ea_cons ev_int (ea_cons ev_int ea_nil))) (ea_cons (ev_of (eo_lst (ea_cons (ev_tup (ea_cons ev_int (ea_cons (ev_tup (ea_cons ev_int (ea_cons ev_int ea_nil))) ea_nil))) ea_nil))) ea_nil)))))))) sc__law_of_whole.nd)
    (svs_one (sv_ret (eo_of (ev_tup (ea_cons (ev_add (ev_var 4) (ev_mul (ev_of (eo_lst (ea_cons (ev_item (ev_var 4) ev_int) ea_nil))) (ev_var 7))) (ea_cons (ev_var 8) (ea_cons (ev_tup (ea_cons (ev_item (ev_var 6) ev_int) (ea_cons (ev_add (ev_item (ev_var 6) ev_int) (ev_mul (ev_of (eo_lst (ea_cons (ev_item (ev_item (ev_var 6) ev_int) ev_int) ea_nil))) (ev_var 7))) ea_nil))) ea_nil))))))))) svs_nil)
    (svs_frz (i := 3) (svs_cons (sv_if (et_eq hr.units (ev_var 2) ev_int) (svs_one (sv_ret (eo_of (ev_tup (ea_cons (ev_var 4) (ea_cons (ev_add (ev_var 5) (ev_mul (ev_var 3) (ev_sub ev_int (ev_len T.b_len (ea_cons (ev_var 5) ea_nil))))) (ea_cons (ev_tup (ea_cons (ev_item (ev_var 6) ev_int) (ea_cons (ev_add (ev_item (ev_var 6) ev_int) (ev_mul (ev_of (eo_lst (ea_cons (ev_item (ev_item (ev_var 6) ev_int) ev_int) ea_nil))) (ev_sub ev_int (ev_len T.b_len (ea_cons (ev_var 5) ea_nil))))) ea_nil))) ea_nil))))))) svs_nil)
    (svs_one (sv_ret (eo_of (ev_tup (ea_cons (ev_add (ev_var 4) (ev_of (eo_lst (ea_cons (ev_item (ev_var 4) ev_int) ea_nil)))) (ea_cons (ev_var 5) (ea_cons (ev_var 6) ea_nil))))))))))))))
abbrev N__law_broken : List Str := ["_law_stream_here", "_law_handed", "_law_kind", "_law_sort", "_law_row", "_law_stands", "_law_comers", "_law_at", "_law_one"]
theorem sc__law_broken : FnScope N__law_broken ["_law_stream_here", "_law_handed", "_law_kind"] (defScope s__law_broken) := ⟨rfl, rfl, rfl, by decide +kernel, rfl, by decide +kernel, by decide +kernel⟩
theorem ok__law_broken (T : Txt K mg) : Ok P w K mg base "_law_broken" 35 3 (some 0) fn__law_broken := by
  have g__law_take := ok__law_take (P := P) (w := w) (base := base) T
  have g__law_of_line := ok__law_of_line (P := P) (w := w) (base := base) T
  have g__law_of_stand := ok__law_of_stand (P := P) (w := w) (base := base) T
  have g__law_of_comers := ok__law_of_comers (P := P) (w := w) (base := base) T
  have g__law_by_kind := ok__law_by_kind (P := P) (w := w) (base := base) T
  have g__law_of_whole := ok__law_of_whole (P := P) (w := w) (base := base) T
  refine ok_mk (N := N__law_broken) (ps := ["_law_stream_here", "_law_handed", "_law_kind"]) (fb := fb__law_broken) T.f__law_broken sc__law_broken (by decide) (fun _ _ _ _ _ _ us hl => match us, hl with | [_, _, _], _ => rfl) (fun f cdv A outer s H E gd hr tk po => ?_)
  exact svs_cons (sv_asg (ev_var 1) (gv_tup rfl (gvs_cons (gv_name (i := 4) sc__law_broken.nd) (gvs_cons (gv_name (i := 5) sc__law_broken.nd) (gvs_cons (gv_name (i := 6) sc__law_broken.nd) gvs_nil)))))
    (svs_cons (sv_set (i := 3) (eo_fn g__law_take gd hr tk (ex_s 0 (ex_v ev_int ex_nil))) sc__law_broken.nd)
    (svs_cons (sv_if (et_eq hr.units (ev_var 3) ev_int) (svs_cons (sv_set (i := 7) (eo_fn g__law_take gd hr tk (ex_s 0 (ex_v (ev_len T.b_len (ea_cons (ev_var 4) ea_nil)) ex_nil))) sc__law_broken.nd)
    (svs_one (sv_ret (eo_of (ev_tup (ea_cons (ev_add (ev_add (ev_of (eo_slice (ev_var 4) ep_none (ep_some (ev_var 7)))) (ev_of (eo_lst (ea_cons (ev_of (eo_fn g__law_of_line gd hr tk (ex_v (ev_item (ev_var 4) (ev_var 7)) (ex_v (ev_of (eo_fn g__law_take gd hr tk (ex_s 0 (ex_v ev_int ex_nil)))) ex_nil)))) ea_nil)))) (ev_of (eo_slice (ev_var 4) (ep_some (ev_add (ev_var 7) ev_int)) ep_none))) (ea_cons (ev_var 5) (ea_cons (ev_var 6) ea_nil)))))))) svs_nil)
    (svs_cons (sv_if (et_eq hr.units (ev_var 3) ev_int) (svs_cons (sv_set (i := 7) (eo_fn g__law_take gd hr tk (ex_s 0 (ex_v (ev_len T.b_len (ea_cons (ev_var 5) ea_nil)) ex_nil))) sc__law_broken.nd)
    (svs_cons (sv_set (i := 8) (eo_fn g__law_of_stand gd hr tk (ex_v (ev_item (ev_var 5) (ev_var 7)) (ex_v (ev_of (eo_fn g__law_take gd hr tk (ex_s 0 (ex_v ev_int ex_nil)))) (ex_v (ev_len T.b_len (ea_cons (ev_var 4) ea_nil)) (ex_v (ev_len T.b_len (ea_cons (ev_var 5) ea_nil)) ex_nil))))) sc__law_broken.nd)
    (svs_one (sv_ret (eo_of (ev_tup (ea_cons (ev_var 4) (ea_cons (ev_add (ev_add (ev_of (eo_slice (ev_var 5) ep_none (ep_some (ev_var 7)))) (ev_of (eo_lst (ea_cons (ev_var 8) ea_nil)))) (ev_of (eo_slice (ev_var 5) (ep_some (ev_add (ev_var 7) ev_int)) ep_none))) (ea_cons (ev_var 6) ea_nil))))))))) svs_nil)
    (svs_cons (sv_if (et_eq hr.units (ev_var 3) ev_int) (svs_one (sv_ret (eo_of (ev_tup (ea_cons (ev_var 4) (ea_cons (ev_var 5) (ea_cons (ev_of (eo_fn g__law_of_comers gd hr tk (ex_v (ev_var 6) (ex_v (ev_add (ev_mul ev_int (ev_intOf T.b_int (ea_cons (ev_of (eo_fn g__law_take gd hr tk (ex_s 0 (ex_v ev_int ex_nil)))) ea_nil))) (ev_of (eo_fn g__law_take gd hr tk (ex_s 0 (ex_v ev_int ex_nil))))) ex_nil)))) ea_nil))))))) svs_nil)
    (svs_cons (sv_if (et_eq hr.units (ev_var 3) ev_int) (svs_one (sv_ret (eo_fn g__law_by_kind gd hr tk (ex_s 0 (ex_v (ev_var 1) (ex_v (ev_var 2) ex_nil)))))) svs_nil)
    (svs_one (sv_ret (eo_fn g__law_of_whole gd hr tk (ex_s 0 (ex_v (ev_var 1) ex_nil))))))))))
abbrev N__law_refused : List Str := ["_law_handed", "_law_before", "e"]
theorem sc__law_refused : FnScope N__law_refused ["_law_handed"] (defScope s__law_refused) := ⟨rfl, rfl, rfl, by decide +kernel, rfl, by decide +kernel, by decide +kernel⟩
theorem ok__law_refused (T : Txt K mg) : Ok P w K mg base "_law_refused" 40 1 none fn__law_refused := by
  have g_made_net := ok_made_net (P := P) (w := w) (base := base) T
  refine ok_mk (N := N__law_refused) (ps := ["_law_handed"]) (fb := fb__law_refused) T.f__law_refused sc__law_refused (by decide) (fun _ _ _ _ _ _ us hl => match us, hl with | [_], _ => rfl) (fun f cdv A outer s H E gd hr tk po => ?_)
  exact svs_cons (sv_set (i := 1) (eo_of (ev_repr gd hr.units T.b_repr (ea_cons (ev_var 0) ea_nil))) sc__law_refused.nd)
    (svs_cons (sv_try_as (i := 2) rfl rfl sc__law_refused.nd tk rfl rfl T.x_RestError rfl rfl (by decide) (exa_cons T.m_NoNet_RestError exa_nil) (xec_cons T.xc_NoNet xec_nil) (fun W2 pn xe tk po => svs_cons (sv_expr (ev_of (eo_fn g_made_net gd hr tk (ex_v (ev_item (ev_var 0) ev_int) (ex_v (ev_item (ev_var 0) ev_int) (ex_v (ev_item (ev_var 0) ev_int) ex_nil))))))
    svs_nil) (fun c hc a oe pn hH => sves_one (sve_ret (eoe_of (eve_and (eve_is hH T.b_isinstance (isa_cons (isM_of T.x_NoNet T.m_NoNet_NoNet T.m_NoNet_NoNet) isa_nil) hc) (eve_one (eve_of (ev_eq hr.units (ev_repr gd.mark (mark_un hr.units) T.b_repr (ea_cons (ev_var 0) ea_nil)) (ev_var 1)))))))))
    (svs_one (sv_ret (eo_of ev_bl))))
abbrev N__law_at_last : List Str := ["_law_handed", "_law_lines", "_law_made", "_law_kept", "_law_row", "_law_stands", "_law_comers", "_law_speeds", "_law_more", "_law_room", "_law_rule", "_law_line_here", "_law_rate", "_law_goes"]
theorem sc__law_at_last : FnScope N__law_at_last ["_law_handed"] (defScope s__law_at_last) := ⟨rfl, rfl, rfl, by decide +kernel, rfl, by decide +kernel, by decide +kernel⟩
theorem ok__law_at_last (T : Txt K mg) : Ok P w K mg base "_law_at_last" 40 1 none fn__law_at_last := by
  have g_made_net := ok_made_net (P := P) (w := w) (base := base) T
  refine ok_mk (N := N__law_at_last) (ps := ["_law_handed"]) (fb := fb__law_at_last) T.f__law_at_last sc__law_at_last (by decide) (fun _ _ _ _ _ _ us hl => match us, hl with | [_], _ => rfl) (fun f cdv A outer s H E gd hr tk po => ?_)
  exact svs_cons (sv_asg (ev_var 0) (gv_tup rfl (gvs_cons (gv_name (i := 4) sc__law_at_last.nd) (gvs_cons (gv_name (i := 5) sc__law_at_last.nd) (gvs_cons (gv_name (i := 6) sc__law_at_last.nd) gvs_nil)))))
    (svs_cons (sv_set (i := 1) (eo_lst ea_nil) sc__law_at_last.nd)
    (svs_cons (sv_for po rfl (iv_list (ev_var 4)) (gv_tup rfl (gvs_cons (gv_name (i := 7) sc__law_at_last.nd) (gvs_cons (gv_name (i := 8) sc__law_at_last.nd) (gvs_cons (gv_name (i := 9) sc__law_at_last.nd) (gvs_cons (gv_name (i := 10) sc__law_at_last.nd) gvs_nil))))) (svs_cons (sv_app (i := 1) (ev_tup (ea_cons (ev_add (ev_add (ev_mul (ev_of (eo_slice (ev_var 7) ep_none (ep_some ev_int))) (ev_sub ev_int (ev_len T.b_len (ea_cons (ev_var 7) ea_nil)))) (ev_of (eo_slice (ev_var 7) ep_none (ep_some (ev_neg ev_int))))) (ev_of (eo_lst (ea_cons (ev_tup (ea_cons ev_int (ea_cons ev_int ea_nil))) ea_nil)))) (ea_cons (ev_var 8) (ea_cons (ev_mul ev_int (ev_intOf T.b_int (ea_cons (ev_gt (ev_var 9) ev_int) ea_nil))) (ea_cons (ev_var 10) ea_nil))))))
    (svs_kill (is := [7, 8, 9, 10]) svs_nil)))
    (svs_cons (sv_setLc (i := 2) (own := [("_law_line_here", 11), ("_law_rate", 12), ("_law_goes", 13)]) rfl sc__law_at_last.nd (iv_list (ev_var 5)) (blkOk_by (own := [("_law_line_here", 11), ("_law_rate", 12), ("_law_goes", 13)]) (N := N__law_at_last) (sc := (defScope s__law_at_last)) (by decide +kernel)) (fun _ _ _ _ _ => gv_tup rfl (gvs_cons (gv_name (i := 11) sc__law_at_last.nd) (gvs_cons (gv_name (i := 12) sc__law_at_last.nd) (gvs_cons (gv_name (i := 13) sc__law_at_last.nd) gvs_nil)))) (fun _ _ _ _ _ => ets_nil) (fun _ _ _ _ _ => ev_tup (ea_cons (ev_var 11) (ea_cons (ev_tup (ea_cons ev_int (ea_cons ev_int ea_nil))) (ea_cons (ev_var 13) ea_nil)))) (sw_true rfl rfl rfl (by decide +kernel)))
    (svs_frz (i := 1) (svs_frz (i := 2) (svs_cons (sv_set (i := 3) (eo_of (ev_repr gd hr.units T.b_repr (ea_cons (ev_tup (ea_cons (ev_var 1) (ea_cons (ev_var 2) (ea_cons (ev_var 6) ea_nil)))) ea_nil))) sc__law_at_last.nd)
    (svs_one (sv_ret (eo_of (ev_and (ev_eq hr.units (ev_repr gd hr.units T.b_repr (ea_cons (ev_of (eo_fn g_made_net gd hr tk (ex_v (ev_var 1) (ex_v (ev_var 2) (ex_v (ev_var 6) ex_nil))))) ea_nil)) (ev_var 3)) (ev_one (ev_eq hr.units (ev_repr gd hr.units T.b_repr (ea_cons (ev_tup (ea_cons (ev_var 1) (ea_cons (ev_var 2) (ea_cons (ev_var 6) ea_nil)))) ea_nil)) (ev_var 3)))))))))))))
abbrev N_law : List Str := ["_law_script", "_law_k", "_law_stream_here", "_law_kind", "_law_handed", "_law_kept", "_law_turn"]
theorem sc_law : FnScope N_law ["_law_script"] (defScope s_law) := ⟨rfl, rfl, rfl, by decide +kernel, rfl, by decide +kernel, by decide +kernel⟩
theorem ok_law_at {f : Addr} {fd : FuncData} (T : Txt K mg) (F : Fun K "law" "law" s_law f fd) : FnG P w K mg base 41 f fd ["_law_script"] (spF K mg 1 none fn_law) := by
  have g__law_stream := ok__law_stream (P := P) (w := w) (base := base) T
  have g__law_take := ok__law_take (P := P) (w := w) (base := base) T
  have g__law_good := ok__law_good (P := P) (w := w) (base := base) T
  have g_made_net := ok_made_net (P := P) (w := w) (base := base) T
  have g__law_at_last := ok__law_at_last (P := P) (w := w) (base := base) T
  have g__law_refused := ok__law_refused (P := P) (w := w) (base := base) T
  have g__law_broken := ok__law_broken (P := P) (w := w) (base := base) T
  refine ok_at (N := N_law) (ps := ["_law_script"]) (fb := fb_law) F sc_law (by decide) (fun f cdv A outer s H E gd hr tk po => ?_)
  exact svs_cons (sv_for po rfl (iv_range1 rfl T.b_range (ea_cons ev_int ea_nil)) (gv_name (i := 1) sc_law.nd) (svs_cons (sv_set (i := 2) (eo_fn g__law_stream gd hr tk (ex_v (ev_var 0) (ex_v (ev_var 1) ex_nil))) sc_law.nd)
    (svs_cons (sv_set (i := 3) (eo_of (ev_item (ev_of (eo_lst (ea_cons ev_str (ea_cons ev_str (ea_cons ev_str ea_nil))))) (ev_mod (ev_add (ev_of (eo_fn g__law_take gd hr tk (ex_s 2 (ex_v ev_int ex_nil)))) (ev_var 1)) ev_int))) sc_law.nd)
    (svs_cons (sv_set (i := 4) (eo_fn g__law_good gd hr tk (ex_s 2 (ex_v (ev_var 3) ex_nil))) sc_law.nd)
    (svs_cons (sv_set (i := 5) (eo_of (ev_repr gd hr.units T.b_repr (ea_cons (ev_var 4) ea_nil))) sc_law.nd)
    (svs_cons (sv_if (et_w (ew_or (et_ne hr.units (ev_repr gd hr.units T.b_repr (ea_cons (ev_of (eo_fn g_made_net gd hr tk (ex_v (ev_item (ev_var 4) ev_int) (ex_v (ev_item (ev_var 4) ev_int) (ex_v (ev_item (ev_var 4) ev_int) ex_nil))))) ea_nil)) (ev_var 5)) (ew_or1 (et_ne hr.units (ev_repr gd hr.units T.b_repr (ea_cons (ev_var 4) ea_nil)) (ev_var 5))))) (svs_one (sv_ret (eo_of ev_bl))) svs_nil)
    (svs_cons (sv_if (et_not (et_val (ev_of (eo_fn g__law_at_last gd hr tk (ex_v (ev_var 4) ex_nil))))) (svs_one (sv_ret (eo_of ev_bl))) svs_nil)
    (svs_cons (sv_for po rfl (iv_range1 rfl T.b_range (ea_cons ev_int ea_nil)) (gv_name (i := 6) sc_law.nd) (svs_cons (sv_if (et_not (et_val (ev_of (eo_fn g__law_refused gd hr tk (ex_v (ev_of (eo_fn g__law_broken gd hr tk (ex_s 2 (ex_v (ev_var 4) (ex_v (ev_var 3) ex_nil))))) ex_nil))))) (svs_one (sv_ret (eo_of ev_bl))) svs_nil)
    (svs_kill (is := [6]) svs_nil)))
    (svs_kill (is := [1, 2, 3, 4, 5]) svs_nil)))))))))
    (svs_one (sv_ret (eo_of ev_bl)))
end Wk
end K04
namespace K04
open PySem PySem.Spec PyProof.Rows L2 Dt Dt.Hk
namespace Wk
theorem all_mk {l : PySem.W.OpenLaw} {w : World} {K : PySem.W.Frag} {h : Heap} {mg : Str → Option Value} {fa : Addr} (c : Says Hd.qs K) (X : K.In h) (G : h.Ns mainGlobals mg) (hfa : mg "law" = some (.ref fa)) :
    ∃ fd : FuncData, (∀ (s : Shared) (v : Value), BindsTo s fd ⟨[v], []⟩ [("_law_script", v)]) ∧ ∀ base : Heap, K.In base → base.Ns mainGlobals mg → FnG l.prog w K mg base 41 fa fd ["_law_script"] (spL K 63) := by
  have T : Txt K mg := { f_common := Qs.fn X G c 0, f_fraction := Qs.fn X G c 1, f_plus := Qs.fn X G c 2, f_is_less := Qs.fn X G c 3, f_total := Qs.fn X G c 4, f_ask := Qs.fn X G c 5, f_ask_fraction := Qs.fn X G c 6, f_ask_line := Qs.fn X G c 7, f_ask_stand := Qs.fn X G c 8, f_ask_rates := Qs.fn X G c 9, f_ask_counts := Qs.fn X G c 10, f_ask_net := Qs.fn X G c 11, f_made_net := Qs.fn X G c 12, f__law_stream := Qs.fn X G c 13, f__law_take := Qs.fn X G c 14, f__law_fraction := Qs.fn X G c 15, f__law_line := Qs.fn X G c 16, f__law_good := Qs.fn X G c 17, f__law_of_line := Qs.fn X G c 18, f__law_of_stand := Qs.fn X G c 19, f__law_of_comers := Qs.fn X G c 20, f__law_by_kind := Qs.fn X G c 21, f__law_of_whole := Qs.fn X G c 22, f__law_broken := Qs.fn X G c 23, f__law_refused := Qs.fn X G c 24, f__law_at_last := Qs.fn X G c 25, f_law := Qs.fn X G c 26, b_abs := Qs.free X G c 0, b_enumerate := Qs.free X G c 1, b_int := Qs.free X G c 2, b_isinstance := Qs.free X G c 3, b_len := Qs.free X G c 4, b_list := Qs.free X G c 5, b_max := Qs.free X G c 6, b_min := Qs.free X G c 7, b_range := Qs.free X G c 8, b_repr := Qs.free X G c 9, b_sum := Qs.free X G c 10, b_zip := Qs.free X G c 11, x_NoFraction := Qs.exc X G c 0, x_NoNet := Qs.exc X G c 1, x_RestError := Qs.exc X G c 2, xc_NoNet := Qs.xc X G c 0, m_NoNet_NoNet := Qs.em X G c 0, m_NoNet_RestError := Qs.em X G c 1, c_MOST_COMERS := Qs.int X G c 0, c_MOST_LINES := Qs.int X G c 1, c_MOST_ROOM := Qs.int X G c 2, c_MOST_SPEEDS := Qs.int X G c 3, c_MOST_STANDS := Qs.int X G c 4, c_NOUGHT := Qs.tup X G c 0, c_ONE := Qs.tup X G c 1, c_OPEN := Qs.str X G c 0, c_RULES := Qs.tup X G c 2, c_SHUT := Qs.str X G c 1, c_SIZE := Qs.int X G c 5 }
  obtain ⟨f, fd, F, e⟩ := Qs.fn X G c 26 (x := "law") (st := s_law)
  have e := hfa.symm.trans e
  cases e
  have F2 := F
  obtain ⟨oc, od, kV, doc, pm, an, cdv, ct, osl, rfl, _, _⟩ := F2.ex
  refine ⟨PySem.W.fnOf "law" "law" (defArgs s_law) (defBody s_law) (defScope s_law) .none kV doc pm an cdv ct, fun s v => .of_eq rfl, fun base _ _ => ?_⟩
  exact law_of (ok_law_at T F) (fun ns _ _ => law_true (ns := ns))
end Wk
end K04
open PySem PySem.W PyProof.Rows
set_option maxHeartbeats 0 in
theorem PySem.Challenge.cw_restlines_k04_nets_refused_holds : PySem.Challenge.rw_restlines_k04_nets_refused.Holds := by
  refine K04.Hd.h0 fun said => ?_
  refine Dt.Pc.head_pcs (r := PySem.W.OpenLaw.row PySem.Challenge.rw_restlines_k04_nets_refused) (q := K04.Hd.qv) (H := K04.Hd.qs.hook) (ob := K04.Hd.ob) (loose := K04.Hd.names) (d := K04.Hd.dl) (kwd := []) K04.Hd.fin K04.Hd.ob_eq
    K04.Hd.h1 K04.Hd.h2 K04.Hd.run K04.Hd.l1 K04.Hd.l2 K04.Hd.l3 K04.Hd.h3 K04.Hd.h4 K04.Hd.h5 K04.Hd.h6 said K04.Hd.h8 K04.Hd.h9 K04.Hd.h11 ?_
  case _ =>
    refine Dt.Hk.walk_h (l := PySem.Challenge.rw_restlines_k04_nets_refused) (n := 63) (k := 41) (x := "_law_script") rfl (by decide +kernel) rfl (by decide) (by kernel_rfl) ⟨rfl, by decide, by decide⟩ ?F
    intro w K mg fa h c KX G hmg
    rw [K04.Hd.h10] at hmg
    exact K04.Wk.all_mk (l := PySem.Challenge.rw_restlines_k04_nets_refused) c KX G hmg
