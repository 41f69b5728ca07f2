import PyProof.Rows.All
import Wide.All
import OpenK.AllK
import Wide.FinOn
import HandS.Head0
import HandS.Head1
import HandS.Head2
import HandS.Words
import HandS.HeadHook1
import HandS.ForMost
import HandS.ForExc
import HandS.Wide
import HandS.CallSlots
import HandS.IsInst
import HandS.Style
import HandS.TupAny
import HandS.EndBits
import HandS.RaiseMore
import HandS.Conv
import HandS.More
import PyProof.ReprRoads
import HandS.SortInts
import HandS.SortRule
import KE.KMinKey
import HandS.SortKw
import HandS.TryMany
import HandS.ExcIs
import HandS.FStr
import HandS.Text
import HandS.SortOrd
import KE.KDictSum
import HandS.DictTup
import KE.KDictWalk
import KE.KDictCopyH
import HandS.TupMul
import PySem.Challenge.RW_restlines_k03_nets_made
set_option Elab.async false
set_option linter.all false
set_option maxRecDepth 100000
set_option maxHeartbeats 4000000
namespace L2
end L2
namespace Turn
end Turn
namespace Dt.Pc
open PySem PySem.W PySem.Calls PyProof.Rows HandSHeadRun
def frN {α : Type} (n : Nat) (k : Nat → α) : α := match n with
  | 0 => k 0
  | m + 1 => k (m + 1)
theorem frN_eq {α : Type} (n : Nat) (k : Nat → α) : frN n k = k n := by cases n <;> rfl
def frB {α : Type} : BT → (BT → α) → α
  | .nil, k => k .nil
  | .node v l r, k => match v with
    | ⟨c, d, x, s⟩ => frB l fun l => frB r fun r => k (.node ⟨c, d, x, s⟩ l r)
theorem frB_eq {α : Type} : ∀ (t : BT) (k : BT → α), frB t k = k t
  | .nil, k => rfl
  | .node ⟨c, d, x, s⟩ l r, k => by
    show frB l (fun l => frB r fun r => k (.node ⟨c, d, x, s⟩ l r)) = _
    rw [frB_eq l, frB_eq r]
def frT {α : Type} (s : SharedT) (k : SharedT → α) : α := match s with
  | ⟨T, n, life, gens, drawn, toks, os⟩ => frB T fun T => frN n fun n => frN toks fun toks => k ⟨T, n, life, gens, drawn, toks, os⟩
theorem frT_eq {α : Type} (s : SharedT) (k : SharedT → α) : frT s k = k s := by
  obtain ⟨T, n, life, gens, drawn, toks, os⟩ := s
  show frB T (fun T => frN n fun n => frN toks fun toks => k ⟨T, n, life, gens, drawn, toks, os⟩) = _
  rw [frB_eq, frN_eq, frN_eq]
section
variable (st : SharedT → Thread → Option (SharedT × Thread)) (n0 : Nat) (ann : Option Value)
def segF : Nat → SharedT → Thread → Option (Flow × SharedT × Code × Pos)
  | 0, _, _ => none
  | m + 1, s, t => match endAt 1 t with
    | some f => frT s fun s => some (f, s, t.code, t.pos)
    | none => match stepOk n0 ann t with
      | false => none
      | true => match st s t with
        | some (s', t') => frN s'.n fun n => frN s'.toks fun k => segF m ⟨s'.tree, n, s'.life, s'.gens, s'.drawn, k, s'.os⟩ t'
        | none => none
def goK : Nat → SharedT → Thread → Option (SharedT × Thread)
  | 0, s, t => frT s fun s => some (s, t)
  | m + 1, s, t => match through t with
    | true => none
    | false => match stepOk n0 ann t with
      | false => none
      | true => match st s t with
        | some (s', t') => frN s'.n fun n => frN s'.toks fun k => goK m ⟨s'.tree, n, s'.life, s'.gens, s'.drawn, k, s'.os⟩ t'
        | none => none
def goE : Nat → SharedT → Thread → Option SharedT
  | 0, _, _ => none
  | m + 1, s, t => match through t with
    | true => frT s some
    | false => match stepOk n0 ann t with
      | false => none
      | true => match st s t with
        | some (s', t') => frN s'.n fun n => frN s'.toks fun k => goE m ⟨s'.tree, n, s'.life, s'.gens, s'.drawn, k, s'.os⟩ t'
        | none => none
end
theorem fr2 {α : Type} (s : SharedT) (k : SharedT → α) : (frN s.n fun n => frN s.toks fun q => k ⟨s.tree, n, s.life, s.gens, s.drawn, q, s.os⟩) = k s := by
  rw [frN_eq, frN_eq]
theorem segF_ok {tb : String → Option Builtin} {p : Program} {w : World} {n0 : Nat} {ann : Option Value} : ∀ {m : Nat} {s s' : SharedT} {t : Thread} {f : Flow} {c : Code} {q : Pos},
    segF (stepT (denote tb) p w) n0 ann m s t = some (f, s', c, q) → segRun tb p w n0 ann 1 m s.abs t = some (f, s'.abs, c, q)
  | 0, _, _, _, _, _, _, h => by cases h
  | m + 1, s, s', t, f, c, q, h => by
    unfold segF at h
    unfold segRun
    cases he : endAt 1 t with
    | some g =>
      rw [he] at h
      have h1 : (frT s fun s => some (g, s, t.code, t.pos)) = some (f, s', c, q) := h
      rw [frT_eq] at h1
      cases h1
      rfl
    | none =>
      rw [he] at h
      cases hk : stepOk n0 ann t with
      | false => rw [hk] at h; cases h
      | true =>
        rw [hk] at h
        cases hs : stepT (denote tb) p w s t with
        | none => rw [hs] at h; cases h
        | some r =>
          obtain ⟨s2, t2⟩ := r
          rw [hs] at h
          have h1 : (frN s2.n fun n => frN s2.toks fun k => segF (stepT (denote tb) p w) n0 ann m ⟨s2.tree, n, s2.life, s2.gens, s2.drawn, k, s2.os⟩ t2) = some (f, s', c, q) := h
          rw [fr2 s2 (fun s => segF (stepT (denote tb) p w) n0 ann m s t2)] at h1
          show (match step (denote tb) p w s.abs t with
            | .go s' t' => segRun tb p w n0 ann 1 m s' t'
            | .halt _ _ => none) = _
          rw [stepT_spec hs]
          exact segF_ok h1
theorem goK_ok {tb : String → Option Builtin} {p : Program} {w : World} {n0 : Nat} {ann : Option Value} : ∀ {m : Nat} {s s' : SharedT} {t t' : Thread},
    goK (stepT (denote tb) p w) n0 ann m s t = some (s', t') → topGo tb p w n0 ann m s.abs t = some (s'.abs, t')
  | 0, s, s', t, t', h => by
    have h1 : (frT s fun s => some (s, t)) = some (s', t') := h
    rw [frT_eq] at h1
    cases h1
    rfl
  | m + 1, s, s', t, t', h => by
    unfold goK at h
    unfold topGo
    cases he : through t with
    | true => rw [he] at h; cases h
    | false =>
      rw [he] at h
      cases hk : stepOk n0 ann t with
      | false => rw [hk] at h; cases h
      | true =>
        rw [hk] at h
        cases hs : stepT (denote tb) p w s t with
        | none => rw [hs] at h; cases h
        | some r =>
          obtain ⟨s2, t2⟩ := r
          rw [hs] at h
          have h1 : (frN s2.n fun n => frN s2.toks fun k => goK (stepT (denote tb) p w) n0 ann m ⟨s2.tree, n, s2.life, s2.gens, s2.drawn, k, s2.os⟩ t2) = some (s', t') := h
          rw [fr2 s2 (fun s => goK (stepT (denote tb) p w) n0 ann m s t2)] at h1
          show (match step (denote tb) p w s.abs t with
            | .go s' t' => topGo tb p w n0 ann m s' t'
            | .halt _ _ => none) = _
          rw [stepT_spec hs]
          exact goK_ok h1
theorem goE_ok {tb : String → Option Builtin} {p : Program} {w : World} {n0 : Nat} {ann : Option Value} : ∀ {m : Nat} {s s' : SharedT} {t : Thread},
    goE (stepT (denote tb) p w) n0 ann m s t = some s' → topRun tb p w n0 ann m s.abs t = some s'.abs
  | 0, s, s', t, h => by cases h
  | m + 1, s, s', t, h => by
    unfold goE at h
    unfold topRun
    cases he : through t with
    | true =>
      rw [he] at h
      have h1 : frT s some = some s' := h
      rw [frT_eq] at h1
      cases h1
      rfl
    | false =>
      rw [he] at h
      cases hk : stepOk n0 ann t with
      | false => rw [hk] at h; cases h
      | true =>
        rw [hk] at h
        cases hs : stepT (denote tb) p w s t with
        | none => rw [hs] at h; cases h
        | some r =>
          obtain ⟨s2, t2⟩ := r
          rw [hs] at h
          have h1 : (frN s2.n fun n => frN s2.toks fun k => goE (stepT (denote tb) p w) n0 ann m ⟨s2.tree, n, s2.life, s2.gens, s2.drawn, k, s2.os⟩ t2) = some s' := h
          rw [fr2 s2 (fun s => goE (stepT (denote tb) p w) n0 ann m s t2)] at h1
          show (match step (denote tb) p w s.abs t with
            | .go s' t' => topRun tb p w n0 ann m s' t'
            | .halt _ _ => none) = _
          rw [stepT_spec hs]
          exact goE_ok h1
abbrev envT (p : Program) : Env := { scope := p.main.scope, locals := mainNs, globals := mainNs, cells := [], code := .ref 13, frame := some 14 }
abbrev codeT (p : Program) : Code := .body (behindTheImports p) (envT p)
abbrev B0 : List Frame := [topFrame default]
def restT (p : Program) (a : Nat) (q : Pos) : Thread := restOf ((behindTheImports p).drop a) (envT p) (codeT p) q B0
def pieceT (p : Program) (a m : Nat) (q : Pos) : Thread := piecesOf (((behindTheImports p).drop a).take m) (envT p) (codeT p) q B0
def blockT (p : Program) : Thread := blockOf (behindTheImports p) (envT p) (codeT p) default B0
def texts {α : Type} : List Str → Nat → List Value → (List Value → Nat → α) → α
  | [], k, out, K => K out.reverse k
  | x :: r, k, out, K => frN (k + 1) fun k1 => texts r k1 (.str x k :: out) K
def tupO (xs : List Value) : Obj := { cls := .type "tuple", data := .seq xs.toArray }
def fldO (cl : Value) (xs : List Value) : Obj := { cls := cl, data := .fields xs.toArray }
section
variable (file : Str) (text modv : Value) (hash : Str → Int)
def defTail {α : Type} (name : Str) (args : Arguments) (body : List Stmt) (scope : Scope) (pos : Pos) (n0 k0 : Nat) (a b : Value) (T : BT) (n k : Nat) (es : List DictEntry) (cs : List Value) (K : BT → Nat → Nat → List DictEntry → List Value → α) : α :=
  frN (n + 1) fun n1 => frN (n + 2) fun n2 => frN (n + 3) fun n3 => frN (k + 1) fun k1 => frN (k + 2) fun k2 => frN (k + 3) fun k3 =>
    K (((T.ins n { cls := .none, data := .func { name, qualname := name, params := args, body := .stmts body, scope, globals := builtinsNs, closure := [], defaults := .none, kwdefaults := .none } }).ins n1
      (fldO (.type "code") [.str name k0, .str name (k0 + 1), .str file (k0 + 2), rawInt pos.line, rawInt (args.posonlyargs.length + args.args.length : Nat), rawInt args.posonlyargs.length, rawInt args.kwonlyargs.length, rawInt (3 : Nat),
        .ref n0, .bool true, text, .ref (n0 + 1), .none, a, b, .ref n, rawInt k, rawInt pos.line, .str file k1])).ins n2
      { cls := .type "function", data := .func { name, qualname := name, params := args, body := .stmts body, scope, globals := mainNs, closure := [], defaults := .none, kwdefaults := .none, pyModule := modv, code := .ref n1 } })
      n3 k3 (⟨hash name, .str name k2, .ref n2⟩ :: es) (.ref n1 :: rawInt pos.col :: rawInt pos.line :: cs)
def goDefs {α : Type} : List Bool → List Stmt → BT → Nat → Nat → List DictEntry → List Value → (BT → Nat → Nat → List DictEntry → List Value → α) → α
  | bl :: bs, .FunctionDef name args body _ _ _ scope _ _ pos :: r, T, n, k, es, cs, K =>
    frN (n + 2) fun n2 => frN (k + 3) fun k3 =>
      match bl with
      | true => defTail file text modv hash name args body scope pos n k .none .none ((T.ins n (tupO [])).ins (n + 1) (fldO .none [])) n2 k3 es cs fun T n k es cs => goDefs bs r T n k es cs K
      | false => texts ((scope.names.filter fun (x, d) => d == .local || (d == .cell && (args.posonlyargs ++ args.args ++ args.kwonlyargs ++ args.vararg.toList ++ args.kwarg.toList).any fun q => q.arg == x)).map (·.1)) k3 [] fun l1 k4 =>
          texts ((scope.names.filter (·.2 == .cell)).map (·.1)) k4 [] fun l2 k5 => frN (n + 3) fun n3 => frN (n + 4) fun n4 =>
            defTail file text modv hash name args body scope pos n k (.ref n2) (.ref n3) ((((T.ins n (tupO [])).ins (n + 1) (fldO .none [])).ins n2 (tupO l1)).ins n3 (tupO l2)) n4 k5 es cs fun T n k es cs => goDefs bs r T n k es cs K
  | _, _, T, n, k, es, cs, K => K T n k es cs
def goRest {α : Type} (st : Stmt) (T : BT) (n k : Nat) (K : BT → Nat → Nat → List DictEntry → List Value → α) : α := match st with
  | .ClassDef name _ _ _ _ _ _ _ _ _ pos =>
    K (((((((((((((T.ins n (tupO [.type "ValueError"])).ins (n + 1) (fldO (.type "builtin_function_or_method") [.builtin "type.__prepare__", .type "type"])).ins (n + 2)
      { cls := .type "dict", data := .dict #[⟨hash "__module__", .str "__module__" (k + 7), modv⟩, ⟨hash "__qualname__", .str "__qualname__" (k + 9), .str name (k + 8)⟩, ⟨hash "__firstlineno__", .str "__firstlineno__" (k + 11), .int (pos.line : Nat) (k + 10)⟩, ⟨hash "__static_attributes__", .str "__static_attributes__" (k + 12), .ref (n + 7)⟩] 4 }).ins (n + 3)
      (tupO [])).ins (n + 4) (fldO .none [])).ins (n + 5)
      (fldO (.type "code") [.str name (k + 2), .str name (k + 3), .str file (k + 4), rawInt pos.line, rawInt (0 : Nat), rawInt (0 : Nat), rawInt (0 : Nat), rawInt (0 : Nat), .ref (n + 3), .bool false, text, .ref (n + 4), .none, .none, .none, .none, rawInt (k + 5 : Nat), rawInt pos.line, .str file (k + 6)])).ins (n + 6)
      { cls := .type "frame", slots := #[some (.ref (n + 5)), some (.ref mainNs), some (.ref (n + 2)), none, some modv, none, some (.ref builtinsNs)] }).ins (n + 7)
      (tupO [])).ins (n + 8)
      { cls := .type "dict", data := .dict #[⟨hash "__module__", .str "__module__" (k + 7), modv⟩, ⟨hash "__firstlineno__", .str "__firstlineno__" (k + 11), .int (pos.line : Nat) (k + 10)⟩, ⟨hash "__static_attributes__", .str "__static_attributes__" (k + 12), .ref (n + 7)⟩, ⟨hash "__weakref__", .str "__weakref__" (k + 14), .ref (n + 10)⟩, ⟨hash "__doc__", .str "__doc__" (k + 15), .none⟩] 3 }).ins (n + 9)
      { cls := .type "type", data := .cls { name, bases := [.type "ValueError"], mro := [.ref (n + 9), .type "ValueError", .type "Exception", .type "BaseException", .type "object"], ns := n + 8, qualname := name }, slots := #[some (.ref n), none, some (.str name k), some (.str name (k + 8)), some (.builtin "ValueError.__new__"), some (.bool true)] }).ins (n + 10)
      (fldO (.type "getset_descriptor") [.str "__weakref__" (k + 13), .ref (n + 9), .builtin "ExceptionGroup.__weakref__", .none])).ins (n + 11)
      (fldO (.type "super") [.ref (n + 9), .ref (n + 9), .ref (n + 9)])).ins (n + 12) (fldO (.type "builtin_function_or_method") [.builtin "object.__init_subclass__", .ref (n + 9)]))
      (n + 13) (k + 18) [⟨hash name, .str name (k + 17), .ref (n + 9)⟩] [.ref (n + 5), rawInt pos.col, rawInt pos.line]
  | _ => K T n k [] []
def consts {α : Type} : List Expr → Nat → List Value → (List Value → Nat → α) → α
  | .Constant (.str x) _ _ :: r, k, out, K => frN (k + 1) fun k1 => consts r k1 (.str x k :: out) K
  | .Constant (.int i) _ _ :: r, k, out, K => frN (k + 1) fun k1 => consts r k1 (.int i k :: out) K
  | _, k, out, K => K out.reverse k
def goPuts {α : Type} : Nat → List Stmt → BT → Nat → Nat → List DictEntry → (BT → Nat → Nat → List DictEntry → α) → α
  | m + 1, .Assign [.Name x _] e _ :: r, T, n, k, es, K => match e with
    | .Constant (.str y) _ _ => frN (k + 1) fun k1 => frN (k + 2) fun k2 => goPuts m r T n k2 (⟨hash x, .str x k1, .str y k⟩ :: es) K
    | .Constant (.int i) _ _ => frN (k + 1) fun k1 => frN (k + 2) fun k2 => goPuts m r T n k2 (⟨hash x, .str x k1, .int i k⟩ :: es) K
    | .UnaryOp _ (.Constant (.int i) _ _) _ => frN (k + 1) fun k1 => frN (k + 2) fun k2 => frN (k + 3) fun k3 => goPuts m r T n k3 (⟨hash x, .str x k2, .int (-i) k1⟩ :: es) K
    | .Tuple xs _ _ => consts xs k [] fun vs k1 => frN (k1 + 1) fun k2 => frN (n + 1) fun n1 => goPuts m r (T.ins n (tupO vs)) n1 k2 (⟨hash x, .str x k1, .ref n⟩ :: es) K
    | _ => K T n k es
  | _, _, T, n, k, es, K => K T n k es
def goCls {α : Type} (r : Addr) (st : Stmt) (T : BT) (n k : Nat) (K : BT → Nat → Nat → List DictEntry → List Value → α) : α := match st with
  | .ClassDef name _ _ _ _ _ _ _ _ _ pos =>
    let at_ (i : Nat) : Nat := n + i
    let tk (i : Nat) : Nat := k + i
    let mro : List Value := match T.get r with
      | some ⟨_, _, .cls c, _⟩ => c.mro
      | _ => []
    K (((((((((((((T.set r (fun o => o.mapCls fun x => { x with subclasses := x.subclasses ++ [.ref (n + 9)] })).ins n (tupO [.ref r])).ins (n + 1) (fldO (.type "builtin_function_or_method") [.builtin "type.__prepare__", .type "type"])).ins (n + 2)
      { cls := .type "dict", data := .dict #[⟨hash "__module__", .str "__module__" (k + 7), modv⟩, ⟨hash "__qualname__", .str "__qualname__" (k + 9), .str name (k + 8)⟩, ⟨hash "__firstlineno__", .str "__firstlineno__" (k + 11), .int (pos.line : Nat) (k + 10)⟩, ⟨hash "__static_attributes__", .str "__static_attributes__" (k + 12), .ref (n + 7)⟩] 4 }).ins (n + 3)
      (tupO [])).ins (n + 4) (fldO .none [])).ins (n + 5)
      (fldO (.type "code") [.str name (k + 2), .str name (k + 3), .str file (k + 4), rawInt pos.line, rawInt (0 : Nat), rawInt (0 : Nat), rawInt (0 : Nat), rawInt (0 : Nat), .ref (n + 3), .bool false, text, .ref (n + 4), .none, .none, .none, .none, rawInt (k + 5 : Nat), rawInt pos.line, .str file (k + 6)])).ins (n + 6)
      { cls := .type "frame", slots := #[some (.ref (n + 5)), some (.ref mainNs), some (.ref (n + 2)), none, some modv, none, some (.ref builtinsNs)] }).ins (n + 7)
      (tupO [])).ins (n + 8)
      { cls := .type "dict", data := .dict #[⟨hash "__module__", .str "__module__" (k + 7), modv⟩, ⟨hash "__firstlineno__", .str "__firstlineno__" (k + 11), .int (pos.line : Nat) (k + 10)⟩, ⟨hash "__static_attributes__", .str "__static_attributes__" (k + 12), .ref (n + 7)⟩, ⟨hash "__doc__", .str "__doc__" (k + 13), .none⟩] 2 }).ins (n + 9)
      { cls := .type "type", data := .cls { name, bases := [.ref r], mro := .ref (n + 9) :: mro, ns := n + 8, qualname := name }, slots := #[some (.ref n), none, some (.str name k), some (.str name (k + 8)), some (.builtin "ValueError.__new__"), some (.bool true)] }).ins (n + 10)
      (fldO (.type "super") [.ref (n + 9), .ref (n + 9), .ref (n + 9)])).ins (n + 11) (fldO (.type "builtin_function_or_method") [.builtin "object.__init_subclass__", .ref (n + 9)]))
      (n + 12) (k + 16) [⟨hash name, .str name (k + 15), .ref (n + 9)⟩] [.ref (n + 5), rawInt pos.col, rawInt pos.line]
  | _ => K T n k [] []
end
inductive Ch where
  | defs (bs : List Bool)
  | cls (r : Nat)
  | rest
  | puts (m : Nat)
  | modl
  | run (m : Nat)
def Ch.count : Ch → Nat
  | .defs bs => bs.length
  | .cls _ => 1
  | .rest => 1
  | .puts m => m
  | .modl => 1
  | .run m => m
def hashT (w : World) (x : Str) : Int := if x.cps.isEmpty then 0 else reduceHash (w.params.strHash x.cps)
def grown (es : List DictEntry) (cs : List Value) (T : BT) : BT :=
  (T.set mainNs fun o => match o with
    | ⟨c, d, .dict xs e, sl⟩ => ⟨c, d, .dict (xs.toList ++ es.reverse).toArray (e + es.length), sl⟩
    | o => o).set 12 fun o => match o with
    | ⟨c, d, .fields xs, sl⟩ => ⟨c, d, .fields (xs.toList ++ cs.reverse).toArray, sl⟩
    | o => o
def renamed (v : Value) : List DictEntry → List DictEntry
  | [] => []
  | e :: r => match e.key.isStr "__name__" with
    | true => { e with val := v } :: r
    | false => e :: renamed v r
section
variable (st : SharedT → Thread → Option (SharedT × Thread)) (n0 : Nat) (ann : Option Value) (p : Program) (w : World)
def nextS (a : Nat) : Ch → SharedT → SharedT
  | .run m, s => match segF st n0 ann 3000 s (pieceT p a m default) with
    | some (_, s', _, _) => s'
    | none => s
  | c, ⟨T, n, life, gens, drawn, k, os⟩ =>
    let (file, text) : Str × Value := match T.get 13 with
      | some ⟨_, _, .fields xs, _⟩ => (match xs.getD 18 .none with | .str f _ => f | _ => "", xs.getD 10 .none)
      | _ => ("", .none)
    let modv : Value := match T.get mainNs with
      | some ⟨_, _, .dict es _, _⟩ => (match es.toList.find? fun e => e.key.isStr "__name__" with | some e => e.val | none => .none)
      | _ => .none
    match c with
    | .defs bs => goDefs file text modv (hashT w) bs ((behindTheImports p).drop a) T n k [] [] fun T n k es cs => ⟨grown es cs T, n, life, gens, drawn, k, os⟩
    | .cls r => (match (behindTheImports p).drop a with
      | d :: _ => goCls file text modv (hashT w) r d T n k fun T n k es cs => ⟨grown es cs T, n, life, gens, drawn, k, os⟩
      | [] => ⟨T, n, life, gens, drawn, k, os⟩)
    | .rest => (match (behindTheImports p).drop a with
      | d :: _ => goRest file text modv (hashT w) d T n k fun T n k es cs => ⟨grown es cs T, n, life, gens, drawn, k, os⟩
      | [] => ⟨T, n, life, gens, drawn, k, os⟩)
    | .puts m => goPuts (hashT w) m ((behindTheImports p).drop a) T n k [] fun T n k es => ⟨grown es [] T, n, life, gens, drawn, k, os⟩
    | .modl => (match (behindTheImports p).drop a with
      | .Assign _ (.Constant (.str y) _ _) _ :: _ => ⟨T.set mainNs (fun o => match o with
          | ⟨c, d, .dict xs e, sl⟩ => ⟨c, d, .dict (renamed (.str y k) xs.toList).toArray e, sl⟩
          | o => o), n, life, gens, drawn, k + 2, os⟩
      | _ => ⟨T, n, life, gens, drawn, k, os⟩)
    | .run _ => ⟨T, n, life, gens, drawn, k, os⟩
def midS : List Ch → Nat → SharedT → SharedT
  | [], _, s => s
  | c :: r, a, s => frT (nextS st n0 ann p w a c s) fun s => midS r (a + c.count) s
end
end Dt.Pc
namespace Dt.Pc
open PySem PySem.W PySem.Calls PyProof.Rows HandSHeadRun
noncomputable def boot0 (w : World) (os : OsState) : SharedT := match putAll (boot_heap w.params).objs.toList .nil 0 with
  | some r => bootT w os r
  | none => bootT w os (.nil, 0)
section
variable (p : Program) (w : World)
noncomputable abbrev stQ : SharedT → Thread → Option (SharedT × Thread) := stepQ (denQ tabQ) p w
noncomputable def m0 (os : OsState) : SharedT := match goK (stQ p w) 11 (bootAnn w) 12 (boot0 w os) (topStub p) with
  | some (s, _) => s
  | none => boot0 w os
noncomputable def m1 (os : OsState) : SharedT := match segF (stQ p w) 11 (bootAnn w) 100 (m0 p w os) (blockT p) with
  | some (_, s, _, _) => s
  | none => m0 p w os
noncomputable def mE (a : Nat) (q : Pos) (s : SharedT) : SharedT := match goE (stQ p w) 11 (bootAnn w) 300 s (restT p a q) with
  | some s => s
  | none => s
noncomputable abbrev mid (chs : List Ch) (a : Nat) (s : SharedT) : SharedT := midS (stQ p w) 11 (bootAnn w) p w chs a s
end
end Dt.Pc
namespace Dt.Pc
open PySem PySem.W PySem.Calls PyProof.Rows HandSHeadRun
theorem boot0_abs (w : World) (os : OsState) : (boot0 w os).abs = ⟨boot_heap w.params, #[], boot_drawn, boot_toks, os⟩ ∧ (boot_heap w.params).objs.size = 11 := by
  have z : (putAll (boot_heap w.params).objs.toList .nil 0).map (fun r => r.2) = some 11 := by kernel_rfl
  unfold boot0
  cases e : putAll (boot_heap w.params).objs.toList .nil 0 with
  | none => rw [e] at z; cases z
  | some r =>
    obtain ⟨t, n⟩ := r
    rw [e] at z
    have en0 : n = 11 := Option.some.inj z
    have eh := putAll_heap e
    constructor
    · show (⟨absHeap t n (boot_heap w.params).life, #[], boot_drawn, boot_toks, os⟩ : Shared) = _
      rw [eh]
    · rw [← en0, ← eh]
      exact absHeap_size t n _
section
variable {p : Program} {w : World} {os : OsState} {r : Shared}
theorem chain_start {N : Nat} (hA : goK (stQ p w) 11 (bootAnn w) 12 (boot0 w os) (topStub p) = some (m0 p w os, ⟨denQ tabQ (codeT p), codeT p, default, B0⟩))
    (hB : segF (stQ p w) 11 (bootAnn w) 100 (m0 p w os) (blockT p) = some (.next, m1 p w os, codeT p, default))
    (k : topRun treeTable p w 11 (bootAnn w) N (m1 p w os).abs (restT p 0 default) = some r) : topRun treeTable p w 11 (bootAnn w) (12 + (100 + N)) (boot0 w os).abs (topStub p) = some r := by
  unfold stQ at hA hB
  rw [← stepQ_eq, ← denQ_eq, ← tabQ_eq] at hA hB
  exact go_top (goK_ok hA) (piece_block (segF_ok hB) k)
theorem chain_step {N a m : Nat} {s s' : SharedT} {q q' : Pos} (h : segF (stQ p w) 11 (bootAnn w) 3000 s (pieceT p a m q) = some (.next, s', codeT p, q'))
    (k : topRun treeTable p w 11 (bootAnn w) N s'.abs (restT p (a + m) q') = some r) : topRun treeTable p w 11 (bootAnn w) (3000 + N) s.abs (restT p a q) = some r := by
  unfold stQ at h
  rw [← stepQ_eq, ← denQ_eq, ← tabQ_eq] at h
  have k2 : topRun treeTable p w 11 (bootAnn w) N s'.abs (restOf (((behindTheImports p).drop a).drop m) (envT p) (codeT p) q' [topFrame default]) = some r := by
    rw [List.drop_drop]
    exact k
  have z := piece_app (l := ((behindTheImports p).drop a).take m) (segF_ok h) k2
  rw [List.take_append_drop] at z
  exact z
theorem chain_end {a : Nat} {q : Pos} {s s' : SharedT} (h : goE (stQ p w) 11 (bootAnn w) 300 s (restT p a q) = some s') : topRun treeTable p w 11 (bootAnn w) 300 s.abs (restT p a q) = some s'.abs := by
  unfold stQ at h
  rw [← stepQ_eq, ← denQ_eq, ← tabQ_eq] at h
  exact goE_ok h
end
theorem left_pcs {p q : Program} {loose : List PySem.Str} {Xt : Shared → Bool} {α : Type} {Yf : Shared → α} {Ya : World → α} {N M : Nat} (fin : World → OsState → SharedT)
    (e : opening p = plainProg p.main.scope.names) (hN : Nat.ble 600 N = true) (f : ∀ s, fenceModules? p s = some s) (le : Nat.ble M N = true)
    (run : ∀ (w : World) (os : OsState), topRun treeTable p w 11 (bootAnn w) M (boot0 w os).abs (topStub p) = some (fin w os).abs)
    (k1 : ∀ w os, looksF p (boot_heap w.params) (fin w os).abs = true) (k2 : ∀ w os, openSeen q loose (importedModules p.main.body) Xt true (fin w os).abs = openGood q loose) (k3 : ∀ w os, Yf (fin w os).abs = Ya w) :
    LeftO p q loose Xt Yf Ya N true := fun w => by
  obtain ⟨⟨h, gs, d, k, os⟩, a, a'⟩ := Option.map_eq_some_iff.mp (boot_open e hN f w)
  obtain ⟨rfl, rfl, rfl, rfl⟩ : h = boot_heap w.params ∧ gs = Array.mk [] ∧ d = boot_drawn ∧ k = boot_toks := by simpa using a'
  have r0 := run w os
  obtain ⟨z1, z2⟩ := boot0_abs w os
  rw [z1] at r0
  have r := topRun_mono (N - M) _ _ _ _ r0
  rw [show M + (N - M) = N by have := Nat.le_of_ble_eq_true le; omega] at r
  have l1' : (staticsOk (importedModules p.main.body) (boot_heap w.params) (fin w os).abs.heap && namesBound p (fin w os).abs.heap && gensDone (fin w os).abs && laidKept (boot_heap w.params) (fin w os).abs.heap) = true := k1 w os
  have t : topFrom treeTable p w N ⟨boot_heap w.params, Array.mk [], boot_drawn, boot_toks, os⟩ = some (fin w os).abs := by
    unfold topFrom
    dsimp only
    rw [boot_ns, z2]
    show (topRun treeTable p w 11 (bootAnn w) N ⟨boot_heap w.params, #[], boot_drawn, boot_toks, os⟩ (topStub p)).bind _ = _
    rw [r]
    show (match staticsOk (importedModules p.main.body) (boot_heap w.params) (fin w os).abs.heap && namesBound p (fin w os).abs.heap && gensDone (fin w os).abs && laidKept (boot_heap w.params) (fin w os).abs.heap with | true => some (fin w os).abs | false => none) = _
    rw [l1']
  unfold openEnds
  rw [a]
  show (topFrom treeTable p w N _).map _ = _
  rw [t]
  exact congrArg some (Prod.ext (k2 w os) (k3 w os))
theorem head_pcs {r : OpenRow} {q : Program} {H : Hook} {ob : SharedT → H.α} {M : Nat} {loose : List PySem.Str} {d : DefRec} {kwd : List (PySem.Str × PySem.Expr)} (fin : World → OsState → SharedT) (ho : ∀ s : SharedT, ob s = H.obs s.abs)
    (e : opening r.prog = plainProg r.prog.main.scope.names) (f : ∀ s, fenceModules? r.prog s = some s)
    (run : ∀ (w : World) (os : OsState), topRun treeTable r.prog w 11 (bootAnn w) M (boot0 w os).abs (topStub r.prog) = some (fin w os).abs)
    (l1 : ∀ w os, looksF r.prog (boot_heap w.params) (fin w os).abs = true)
    (l2 : ∀ w os, seenQ q loose (importedModules r.prog.main.body) (fun s => xlAt q [] s && recOk r.toRowW.records s) (fin w os).abs = openGood q loose) (l3 : ∀ w os, ob (fin w os) = H.val w)
    (hdef : defOf q r.name = some (d, kwd)) (hp : r.prog.theDef r.name = some (d.params, d.body, d.scope)) (hk : kwWritten? d.params.kwonlyargs d.params.kw_defaults = some kwd)
    (hwr : (!r.writes || r.records.isEmpty) = true) (k1 : r.wellSaid = true) (ok : (chainsOk q && opensWell r.prog && (frees r.toRowW && r.within.isEmpty)) = true) (hb : r.prog.bare) (hw : r.toRowW.promised)
    (call : WalkO q loose (XL q []) H.says r.toRowW d kwd fun f vs => PySem.call f vs) : r.Holds := by
  have left : LeftO r.prog q loose (fun s => xlAt q [] s && recOk r.toRowW.records s) H.obs H.val (M + 600) true :=
    left_pcs (M := M) fin e (Nat.ble_eq_true_of_le (by omega)) f (Nat.ble_eq_true_of_le (by omega)) run l1 (fun w os => by rw [seenQ_eq]; exact l2 w os) (fun w os => by rw [← ho]; exact l3 w os)
  exact holds_open (r := r) (q := q) (loose := loose) (XP := XL q []) (YP := H.says) (d := d) (kwd := kwd) left H.of H.keeps (fun s z => xl_of s (Bool.and_eq_true_iff.mp z).1) XL.keeps hdef hp hk (fun s z => recFacts_of (Bool.and_eq_true_iff.mp z).2) hwr k1 ok hb hw call
end Dt.Pc
namespace Dt.Hk
open PySem PySem.Spec PyProof.Rows L2
open PySem.W (nsIn fnOf codeIn keepIn)
abbrev veT : List Value := [.type "ValueError", .type "Exception", .type "BaseException", .type "object"]
structure Qs where
  fns : List (Str × Str × Stmt)
  frees : List Str
  excs : List Str
  xcs : List Str
  isv : List (Str × String)
  exm : List (Str × Str × Bool)
  cints : List (Str × Int)
  cstrs : List (Str × Str)
  ctups : List (Str × List (Int ⊕ Str))
def eqB (a b : Option Bool) : Bool := match a, b with
  | some x, some y => x == y
  | _, _ => false
def isBn (o : Option (Option Value)) (x : String) : Bool := match o with
  | some (some (.builtin y)) => y == x
  | _ => false
def isNo (o : Option (Option Value)) : Bool := match o with
  | some none => true
  | _ => false
def isTy (o : Option Value) (x : String) : Bool := match o with
  | some (.type y) => y == x
  | _ => false
def litB : Int ⊕ Str → Value → Bool
  | .inl i, .int j _ => decide (j = i)
  | .inr s, .str t _ => decide (t = s)
  | _, _ => false
def litsB : List (Int ⊕ Str) → List Value → Bool
  | [], [] => true
  | x :: xs, u :: us => litB x u && litsB xs us
  | _, _ => false
def excB (K : PySem.W.Frag) (x : Str) : Bool := (match nsIn K mainGlobals x with
  | some (some (.ref C)) => PySem.W.excIn K C veT "ValueError.__new__" && (keepIn K (.ref C) && (eqB (PySem.W.subIn K (.ref C) (.type "BaseException")) (some true) && isTy (PySem.W.typeIn K (.ref C)) "type"))
  | _ => false)
def xcB (K : PySem.W.Frag) (x : Str) : Bool := (match nsIn K mainGlobals x with
  | some (some (.ref C)) => isBn (PySem.W.findIn K (.ref C) "__getattribute__") "BaseException.__getattribute__" && (isNo (PySem.W.findIn K (.ref C) "__getattr__") && (eqB (PySem.W.subIn K (.ref C) (.type "BaseException")) (some true) &&
    (PySem.W.hasDictIn K C && (isBn (PySem.W.findIn K (.ref C) "__class__") "object.__class__" && (isBn (PySem.W.specialIn K (.builtin "object.__class__") "__get__") "getset_descriptor.__get__" &&
    (eqB (PySem.W.takesIn K (.builtin "object.__class__")) (some true) && eqB (PySem.W.mroIn K C (.type "object")) (some true)))))))
  | _ => false)
def isvB (K : PySem.W.Frag) (q : Str × String) : Bool := (match nsIn K mainGlobals q.1 with
  | some (some (.ref C)) => eqB (PySem.W.subIn K (.ref C) (.type q.2)) (some true)
  | _ => false)
def exmB (K : PySem.W.Frag) (q : Str × Str × Bool) : Bool := (match nsIn K mainGlobals q.1 with
  | some (some (.ref C)) => (match nsIn K mainGlobals q.2.1 with
    | some (some (.ref E)) => eqB (PySem.W.exmOne K (.ref C) (.ref E)) (some q.2.2)
    | _ => false)
  | _ => false)
def intB (K : PySem.W.Frag) (q : Str × Int) : Bool := (match nsIn K mainGlobals q.1 with
  | some (some (.int j _)) => decide (j = q.2)
  | _ => false)
def strB (K : PySem.W.Frag) (q : Str × Str) : Bool := (match nsIn K mainGlobals q.1 with
  | some (some (.str j _)) => decide (j = q.2)
  | _ => false)
def tupB (K : PySem.W.Frag) (q : Str × List (Int ⊕ Str)) : Bool := (match nsIn K mainGlobals q.1 with
  | some (some (.ref p)) => (match K.lookup p with
    | some ⟨.type c, _, .seq its _, _⟩ => (c == "tuple") && (Nat.ble its.size 1000 && litsB q.2 its.toList)
    | _ => false)
  | _ => false)
def enc (s : Str) : Nat := s.cps.toList.foldl (fun a c => a * 1114112 + c + 1) 0
def encV : Value → Nat
  | .str s _ => enc s
  | _ => 0
def tbl (es : List DictEntry) : List (Nat × DictEntry) := es.map fun e => (encV e.key, e)
def tblK {α : Type} : List DictEntry → (List (Nat × DictEntry) → α) → α
  | [], k => k []
  | e :: r, k => HandSHeadRun.frNat (encV e.key) fun n => tblK r fun t => k ((n, e) :: t)
def lkT (n : Nat) : List (Nat × DictEntry) → Option DictEntry
  | [] => none
  | (m, e) :: r => match Nat.beq m n with
    | true => some e
    | false => lkT n r
def glE (g : Addr → Option Obj) : List DictEntry := (match g mainGlobals with
  | some ⟨_, _, .dict us _, _⟩ => us.toList
  | _ => [])
def rfs (g : Addr → Option Obj) (as : List Addr) : List Addr := as.flatMap fun a => (match g a with
  | some o => He.refsO o
  | none => [])
def r1 (es : List DictEntry) : List Addr := es.flatMap fun e => He.refV e.val
def asK (g : Addr → Option Obj) : List Addr := (mainGlobals :: (r1 ((glE g).take 24) ++ rfs g (r1 ((glE g).take 24)))) ++ (r1 (glE g) ++ rfs g (r1 (glE g)))
abbrev KG (g : Addr → Option Obj) : PySem.W.Frag := He.frG g (asK g)
def codeG (g : Addr → Option Obj) (v : Value) (x : Str) : Bool := match v with
  | .ref c => (match g c with
    | some ⟨_, _, .fields vs, _⟩ => (match vs.toList with
      | _ :: .str n _ :: _ => n == x
      | _ => false)
    | _ => false)
  | _ => false
def fnB (g : Addr → Option Obj) (t : List (Nat × DictEntry)) (q : Str × Str × Stmt) : Bool := (match HandSHeadRun.frNat (enc q.1) fun n => lkT n t with
  | some e => e.key.isStr q.1 && (match e.val with
    | .ref f => (match g f with
      | some ⟨_, _, .func fd, _⟩ => codeG g fd.code q.2.1
      | _ => false)
    | _ => false)
  | _ => false)
abbrev FnO : Type := Option (Str × Str × Arguments × FuncBody × Scope × Addr × List (Str × Addr) × Value × Addr)
def fnO (g : Addr → Option Obj) (t : List (Nat × DictEntry)) (q : Str × Str × Stmt) : FnO := (match HandSHeadRun.frNat (enc q.1) fun n => lkT n t with
  | some e => (match e.val with
    | .ref f => (match g f with
      | some ⟨_, _, .func u, _⟩ => some (u.name, u.qualname, u.params, u.body, u.scope, u.globals, u.closure, u.defaults, u.builtins)
      | _ => none)
    | _ => none)
  | _ => none)
def fnV (q : Str × Str × Stmt) : FnO := some (q.2.1, q.2.1, defArgs q.2.2, .stmts (defBody q.2.2), defScope q.2.2, mainGlobals, [], .none, builtinsNs)
def frB (t : List (Nat × DictEntry)) (x : Str) : Bool := (match HandSHeadRun.frNat (enc x) fun n => lkT n t with
  | none => true
  | some _ => false)
def Qs.ckK (Q : Qs) (K : PySem.W.Frag) : Bool := Q.excs.all (excB K) && (Q.xcs.all (xcB K) && (Q.isv.all (isvB K) && (Q.exm.all (exmB K) && (Q.cints.all (intB K) && (Q.cstrs.all (strB K) && Q.ctups.all (tupB K))))))
def Qs.ckT (Q : Qs) (g : Addr → Option Obj) (t : List (Nat × DictEntry)) : Bool := Q.fns.all (fnB g t) && Q.frees.all (frB t)
abbrev QO : Type := Bool × Bool × List FnO
def Qs.obsG (Q : Qs) (g : Addr → Option Obj) : QO := (!(glE g).isEmpty && (!((glE g).any (·.refKey)) && Q.ckK (KG g)), tblK (glE g) fun t => (Q.ckT g t, Q.fns.map (fnO g t)))
def Qs.val (Q : Qs) : QO := (true, true, Q.fns.map fnV)
end Dt.Hk
namespace Dt.Br
open PySem PySem.TablesWhole
theorem wSs_app {top : Scope} {cx : TablesWhole.Ctx} {sc : Scope} : ∀ a b : List Stmt, wSs holds top cx sc (a ++ b) = (wSs holds top cx sc a && wSs holds top cx sc b)
  | [], b => by
    rw [List.nil_append, wSs]
    rfl
  | s :: r, b => by
    rw [List.cons_append, wSs, wSs, wSs_app r b]
    exact (Bool.and_assoc _ _ _).symm
theorem gSs_app {top : Scope} {cx : TablesWhole.Ctx} {sc : Scope} : ∀ a b : List Stmt, wSs gather top cx sc (a ++ b) = wSs gather top cx sc a ++ wSs gather top cx sc b
  | [], b => by
    rw [List.nil_append, wSs]
    rfl
  | s :: r, b => by
    rw [List.cons_append, wSs, wSs, gSs_app r b]
    exact (List.append_assoc _ _ _).symm
abbrev cx0 (p : Program) : TablesWhole.Ctx := ⟨p.main.scope, [], [], [], none⟩
def ck (p : Program) (a n : Nat) : Bool := (wSs gather p.main.scope (cx0 p) p.main.scope ((p.main.body.drop a).take n)).isEmpty && wSs holds p.main.scope (cx0 p) p.main.scope ((p.main.body.drop a).take n)
def From (p : Program) (a : Nat) : Prop := wSs gather p.main.scope (cx0 p) p.main.scope (p.main.body.drop a) = [] ∧ wSs holds p.main.scope (cx0 p) p.main.scope (p.main.body.drop a) = true
theorem from_end {p : Program} {a : Nat} (h : (p.main.body.drop a).isEmpty = true) : From p a := by
  have e : p.main.body.drop a = [] := List.isEmpty_iff.mp h
  unfold From
  rw [e]
  constructor
  · rw [wSs]; rfl
  · rw [wSs]; rfl
theorem from_step {p : Program} {a n : Nat} (h : ck p a n = true) (r : From p (a + n)) : From p a := by
  unfold ck at h
  rw [Bool.and_eq_true] at h
  have e : p.main.body.drop a = (p.main.body.drop a).take n ++ p.main.body.drop (a + n) := by
    rw [← List.drop_drop]
    exact (List.take_append_drop n _).symm
  unfold From
  rw [e, gSs_app, wSs_app, List.isEmpty_iff.mp h.1, h.2, r.1, r.2]
  exact ⟨rfl, rfl⟩
theorem whole_of {p : Program} (h1 : p.modules = []) (h2 : p.parses = []) (h3 : p.harvested = []) (h4 : noTwice p.main.scope = true) (h : From p 0) : p.tablesWhole = true := by
  obtain ⟨g, w⟩ := h
  rw [List.drop_zero] at g w
  unfold Program.tablesWhole wProgram wModule
  rw [h1, h2, h3]
  have e : (wSs gather p.main.scope ⟨p.main.scope, [], [], [], none⟩ p.main.scope p.main.body) = [] := g
  dsimp only
  rw [e]
  unfold Alg.all holds
  simp only [List.foldr_cons, List.foldr_nil, List.map_nil, h4, Bool.and_true, Bool.true_and]
  exact w
end Dt.Br
namespace K03
namespace Hd
open PySem PySem.W PySem.Calls PyProof.Rows HandSHeadRun Dt.Pc Dt.Hk
abbrev R : PySem.W.OpenRow := PySem.W.OpenLaw.row PySem.Challenge.rw_restlines_k03_nets_made
abbrev P : Program := R.prog
abbrev qv : Program := PySem.W.view R.prog [43]
def nm0 : List Str := ["RestError", "NoFraction", "NoNet", "NOUGHT", "ONE", "common", "fraction", "plus", "is_less", "total", "MOST_LINES", "MOST_STANDS", "MOST_SPEEDS", "MOST_ROOM", "MOST_COMERS", "SIZE", "RULES", "OPEN", "SHUT", "ask", "ask_fraction", "ask_line", "ask_stand", "ask_rates", "ask_counts", "ask_net", "made_net", "_law_stream", "_law_take", "_law_fraction"]
def nm1 : List Str := ["_law_some", "_law_line", "_law_ways", "_law_rooms", "_law_drawn", "_law_deep", "_law_change", "_law_apart", "_law_shared"]
def names : List Str := nm0 ++ nm1
noncomputable def s0 (w : World) (os : OsState) : SharedT := m1 P w os
theorem pA (w : World) (os : OsState) : goK (stQ P w) 11 (bootAnn w) 12 (boot0 w os) (topStub P) = some (m0 P w os, ⟨denQ tabQ (codeT P), codeT P, default, B0⟩) := by kernel_rfl
theorem pB (w : World) (os : OsState) : segF (stQ P w) 11 (bootAnn w) 100 (m0 P w os) (blockT P) = some (.next, m1 P w os, codeT P, default) := by kernel_rfl
def c1 : List Ch := [.modl, .rest, .cls 24, .cls 24]
noncomputable def s1 (w : World) (os : OsState) : SharedT := mid P w c1 0 (s0 w os)
def c2 : List Ch := [.modl, .puts 2, .defs [false, false, false, false, false], .modl, .puts 9, .defs [false, false, false, true, true, true, true, true], .modl, .defs [false, false, false]]
noncomputable def s2 (w : World) (os : OsState) : SharedT := mid P w c2 4 (s1 w os)
def c3 : List Ch := [.defs [false, true, true, true, true, true, false, true, false, false]]
noncomputable def s3 (w : World) (os : OsState) : SharedT := mid P w c3 34 (s2 w os)
theorem p1 (w : World) (os : OsState) : segF (stQ P w) 11 (bootAnn w) 3000 (s0 w os) (pieceT P 0 4 default) = some (.next, s1 w os, codeT P, ⟨6, 0, 7, 8⟩) := by kernel_rfl
theorem p2 (w : World) (os : OsState) : segF (stQ P w) 11 (bootAnn w) 3000 (s1 w os) (pieceT P 4 30 ⟨6, 0, 7, 8⟩) = some (.next, s2 w os, codeT P, ⟨122, 0, 127, 59⟩) := by kernel_rfl
theorem p3 (w : World) (os : OsState) : segF (stQ P w) 11 (bootAnn w) 3000 (s2 w os) (pieceT P 34 10 ⟨122, 0, 127, 59⟩) = some (.next, s3 w os, codeT P, ⟨201, 0, 219, 15⟩) := by kernel_rfl
noncomputable def fin (w : World) (os : OsState) : SharedT := mE P w 44 ⟨201, 0, 219, 15⟩ (s3 w os)
theorem pE (w : World) (os : OsState) : goE (stQ P w) 11 (bootAnn w) 300 (s3 w os) (restT P 44 ⟨201, 0, 219, 15⟩) = some (fin w os) := by kernel_rfl
theorem run (w : World) (os : OsState) : topRun treeTable P w 11 (bootAnn w) (12 + (100 + (3000 + (3000 + (3000 + 300))))) (boot0 w os).abs (topStub P) = some (fin w os).abs := chain_start (pA w os) (pB w os) (chain_step (p1 w os) (chain_step (p2 w os) (chain_step (p3 w os) (chain_end (pE w os)))))
theorem l1 (w : World) (os : OsState) : looksF P (boot_heap w.params) (fin w os).abs = true := by kernel_rfl
theorem l2 (w : World) (os : OsState) : seenQ qv names (importedModules P.main.body) (fun s => xlAt qv [] s && recOk R.toRowW.records s) (fin w os).abs = openGood qv names := by kernel_rfl
def topS (i : Nat) : Stmt := PySem.Challenge.pw_restlines_k03_nets_made.main.body.getD i (.Pass ⟨0, 0, 0, 0⟩)
def qF0 : List (Str × Str × Stmt) := [("common", "common", topS 7), ("fraction", "fraction", topS 8), ("plus", "plus", topS 9), ("is_less", "is_less", topS 10), ("total", "total", topS 11), ("ask", "ask", topS 22), ("ask_fraction", "ask_fraction", topS 23), ("ask_line", "ask_line", topS 24), ("ask_stand", "ask_stand", topS 25), ("ask_rates", "ask_rates", topS 26), ("ask_counts", "ask_counts", topS 27), ("ask_net", "ask_net", topS 28), ("made_net", "made_net", topS 29), ("_law_stream", "_law_stream", topS 31), ("_law_take", "_law_take", topS 32), ("_law_fraction", "_law_fraction", topS 33), ("_law_some", "_law_some", topS 34), ("_law_line", "_law_line", topS 35), ("_law_ways", "_law_ways", topS 36), ("_law_rooms", "_law_rooms", topS 37), ("_law_drawn", "_law_drawn", topS 38), ("_law_deep", "_law_deep", topS 39), ("law", "law", topS 43), ("_law_change", "_law_change", topS 40), ("_law_apart", "_law_apart", topS 41), ("_law_shared", "_law_shared", topS 42)]
def qs : Qs := { fns := qF0, frees := ["abs", "enumerate", "int", "len", "list", "max", "min", "range", "sum", "zip", "isinstance", "tuple"], excs := ["NoFraction", "NoNet"], xcs := [], isv := [], exm := [], cints := [("MOST_COMERS", 8), ("MOST_LINES", 8), ("MOST_ROOM", 9), ("MOST_SPEEDS", 6), ("MOST_STANDS", 12), ("SIZE", 1000)], cstrs := [("OPEN", "open"), ("SHUT", "shut")], ctups := [("NOUGHT", [.inl (0), .inl (1)]), ("ONE", [.inl (1), .inl (1)]), ("RULES", [.inr "stay", .inr "lose", .inr "skip"])] }
def ob (s : PySem.W.SharedT) : Dt.Hk.QO := qs.obsG (HandSHeadRun.getT s)
theorem l3 (w : World) (os : OsState) : ob (fin w os) = qs.val := by kernel_rfl
abbrev dl : DefRec := HandSHeadRun.topDef R.prog 43
theorem h1 : opening R.prog = plainProg R.prog.main.scope.names := by kernel_rfl
theorem h2 : ∀ s, fenceModules? R.prog s = some s := fun s => by kernel_rfl
theorem h3 : defOf qv R.name = some (dl, []) := by kernel_rfl
theorem h4 : R.prog.theDef R.name = some (dl.params, dl.body, dl.scope) := by kernel_rfl
theorem h5 : kwWritten? dl.params.kwonlyargs dl.params.kw_defaults = some [] := by kernel_rfl
theorem h6 : (!R.writes || R.records.isEmpty) = true := by rfl
theorem h8a : chainsOk qv = true := by kernel_rfl
theorem h8b : opensWell R.prog = true := by kernel_rfl
theorem h8c : frees R.toRowW = true := by kernel_rfl
theorem h8d : R.within.isEmpty = true := by kernel_rfl
theorem h8 : (chainsOk qv && opensWell R.prog && (frees R.toRowW && R.within.isEmpty)) = true := by
  rw [h8a, h8b, h8c, h8d]
  rfl
theorem b0 : Dt.Br.ck R.prog 0 30 = true := by kernel_rfl
theorem b30 : Dt.Br.ck R.prog 30 30 = true := by kernel_rfl
theorem bE : (R.prog.main.body.drop 60).isEmpty = true := by kernel_rfl
theorem bN : PySem.TablesWhole.noTwice R.prog.main.scope = true := by kernel_rfl
theorem h9 : R.prog.bare := ⟨rfl, rfl, rfl, rfl, rfl, Dt.Br.whole_of rfl rfl rfl bN (Dt.Br.from_step b0 (Dt.Br.from_step b30 (Dt.Br.from_end bE)))⟩
theorem h10 : dl.name = ("law" : PySem.Str) := by kernel_rfl
end Hd
end K03
section
open PySem PySem.W PyProof.Rows
set_option maxHeartbeats 0 in
theorem K03.Hd.h0 (h : (PySem.W.OpenLaw.row PySem.Challenge.rw_restlines_k03_nets_made).wellSaid = true → (PySem.W.OpenLaw.row PySem.Challenge.rw_restlines_k03_nets_made).Holds) : PySem.Challenge.rw_restlines_k03_nets_made.Holds := by
  w_on; o_law
  exact h (by assumption)
set_option maxHeartbeats 0 in
theorem K03.Hd.h11 : (PySem.W.OpenLaw.row PySem.Challenge.rw_restlines_k03_nets_made).toRowW.promised := by
  w_witness2
end
namespace Dt
open PySem PySem.Spec PyProof.Rows L2
abbrev St := L2.St
inductive D where
  | non
  | bl (b : Bool)
  | int (i : Int)
  | str (x : Str)
  | lst (xs : List D)
  | tup (xs : List D)
  | scr (ns : List Int)
  | dic (ks : List Int) (vs : List D)
  /-- a dict whose keys are tuples of ints and texts -/
  | dct (ks : List (List L2.Key)) (vs : List D)
  /-- some object, by its address -/
  | obj (a : Addr)
  /-- a tuple of ints and texts that was made by the program, a key -/
  | key (ks : List L2.Key)
  /-- an instance of a class of the module, by the class's name, with its fields -/
  | ins (c : Str) (ks : List Str) (vs : List D)
def kPy : L2.Key → PyData
  | .inl i => .int i
  | .inr x => .str x
mutual
def D.py : D → PyData
  | .non => .none
  | .bl b => .bool b
  | .int i => .int i
  | .str x => .str x
  | .lst xs => .list (D.pys xs)
  | .tup xs => .tuple (D.pys xs)
  | .scr ns => .list (ns.map PyData.int)
  | .dic _ _ => .dict []
  | .dct _ _ => .dict []
  | .ins _ _ _ => .dict []
  | .obj _ => .dict []
  | .key ks => .tuple (ks.map kPy)
def D.pys : List D → List PyData
  | [] => []
  | x :: xs => D.py x :: D.pys xs
end
def Ex (H H' : Hp) : Prop := ∀ a o, H a = some o → H' a = some o
theorem Ex.refl (H : Hp) : Ex H H := fun _ _ h => h
theorem Ex.trans {H H1 H2 : Hp} (a : Ex H H1) (b : Ex H1 H2) : Ex H H2 := fun x o h => b x o (a x o h)
theorem Ex.new {H : Hp} {p : Addr} {o : HO} (h : H p = none) : Ex H (upd H p o) := fun a u e => by
  rw [upd_ne (ne_of_none e h)]
  exact e
theorem Ex.nn {H H' : Hp} {p : Addr} (e : Ex H H') (h : H' p = none) : H p = none := by
  cases h1 : H p with
  | none => rfl
  | some o => rw [e p o h1] at h; cases h
theorem Ex.both {B H : Hp} {p : Addr} {o : HO} (e : Ex B H) : Ex (upd B p o) (upd H p o) := fun a u h => by
  by_cases q : a = p
  · subst q; rw [upd_same] at h ⊢; exact h
  · rw [upd_ne q] at h ⊢; exact e a u h
theorem Ex.right {B H : Hp} {p : Addr} {o : HO} (e : Ex B H) (h : B p = none) : Ex B (upd H p o) := fun a u q => by
  rw [upd_ne (ne_of_none q h)]; exact e a u q
theorem upd_some {H : Hp} {a p : Addr} {o : HO} (h : H a ≠ none) : upd H p o a ≠ none := by
  by_cases q : a = p
  · subst q; rw [upd_same]; simp
  · rw [upd_ne q]; exact h
theorem Ex.rd {H H' : Hp} {a : Addr} {u : HO} (e : Ex H H') (h : Rd H a u) : Rd H' a u := by
  rcases h with h | ⟨o, h⟩
  · exact Or.inl (e a _ h)
  · exact Or.inr ⟨o, e a _ h⟩
theorem Ex.sl {K : PySem.W.Frag} {H H' : Hp} {a : Addr} {xs : List V} (e : Ex H H') (h : SqL K H a xs) : SqL K H' a xs := by
  rcases h with h | h
  · exact Or.inl (e.rd h)
  · exact Or.inr h
theorem Ex.st {K : PySem.W.Frag} {H H' : Hp} {a : Addr} {xs : List V} (e : Ex H H') (h : SqT K H a xs) : SqT K H' a xs := by
  rcases h with h | h
  · exact Or.inl (e.rd h)
  · exact Or.inr h
def dkt (ks : List (List L2.Key)) (xs : List V) : List (List L2.Key × V) := List.zipWith (fun k v => (k, v)) ks xs
def dki (ks : List Str) (xs : List V) : List (Str × V) := List.zipWith (fun k v => (k, v)) ks xs
def dkv (ks : List Int) (xs : List V) : List (L2.Key × V) := List.zipWith (fun k v => (Sum.inl k, v)) ks xs
mutual
inductive Fz (K : PySem.W.Frag) (B : Hp) : V → D → Prop
  | non : Fz K B .non .non
  | bl (b : Bool) : Fz K B (.bl b) (.bl b)
  | int (i : Int) : Fz K B (.int i) (.int i)
  | str (x : Str) : Fz K B (.str x) (.str x)
  | lst {a : Addr} {xs : List V} {ds : List D} : B a = some (.lst xs) → Fzs K B xs ds → Fz K B (.ref a) (.lst ds)
  | tup {a : Addr} {xs : List V} {ds : List D} : SqT K B a xs → Fzs K B xs ds → Fz K B (.ref a) (.tup ds)
  | scr {a : Addr} {ns : List Int} : SqL K B a (ns.map V.int) → Fz K B (.ref a) (.scr ns)
  | dic {a : Addr} {ks : List Int} {xs : List V} {ds : List D} : B a = some (.dK (dkv ks xs)) → ks.length = xs.length → Fzs K B xs ds → Fz K B (.ref a) (.dic ks ds)
  | dct {a : Addr} {ks : List (List L2.Key)} {xs : List V} {ds : List D} : Rd B a (.dT (dkt ks xs)) → ks.length = xs.length → Fzs K B xs ds → Fz K B (.ref a) (.dct ks ds)
  | obj (a : Addr) : Fz K B (.ref a) (.obj a)
  | key {a : Addr} {ks : List L2.Key} : B a = some (.tup (ks.map kV)) → Fz K B (.ref a) (.key ks)
  | ins {a C dx : Addr} {c : Str} {ks : List Str} {xs : List V} {ds : List D} : PySem.W.nsIn K mainGlobals c = some (some (.ref C)) → B a = some (.ins C dx (dki ks xs)) → ks.length = xs.length → Fzs K B xs ds → Fz K B (.ref a) (.ins c ks ds)
inductive Fzs (K : PySem.W.Frag) (B : Hp) : List V → List D → Prop
  | nil : Fzs K B [] []
  | cons {v : V} {vs : List V} {d : D} {ds : List D} : Fz K B v d → Fzs K B vs ds → Fzs K B (v :: vs) (d :: ds)
end
section
variable {K : PySem.W.Frag} {B B' H : Hp}
mutual
theorem Fz.mono {v : V} {d : D} (e : Ex B B') : Fz K B v d → Fz K B' v d
  | .non => .non
  | .bl b => .bl b
  | .int i => .int i
  | .str x => .str x
  | .lst h hs => .lst (e _ _ h) (Fzs.mono e hs)
  | .tup h hs => .tup (e.st h) (Fzs.mono e hs)
  | .scr h => .scr (e.sl h)
  | .dic h l hs => .dic (e _ _ h) l (Fzs.mono e hs)
  | .dct h l hs => .dct (e.rd h) l (Fzs.mono e hs)
  | .obj a => .obj a
  | .key h => .key (e _ _ h)
  | .ins k h l hs => .ins k (e _ _ h) l (Fzs.mono e hs)
theorem Fzs.mono {vs : List V} {ds : List D} (e : Ex B B') : Fzs K B vs ds → Fzs K B' vs ds
  | .nil => .nil
  | .cons h hs => .cons (Fz.mono e h) (Fzs.mono e hs)
end
theorem dp_ints : ∀ ns : List Int, DpAll K H (ns.map V.int) (ns.map PyData.int)
  | [] => .nil
  | n :: ns => .cons (.int n) (dp_ints ns)
theorem dp_keys : ∀ ks : List L2.Key, DpAll K H (ks.map kV) (ks.map kPy)
  | [] => .nil
  | .inl n :: ns => .cons (.int n) (dp_keys ns)
  | .inr n :: ns => .cons (.str n) (dp_keys ns)
mutual

def D.nd : D → Bool
  | .lst xs => D.nds xs
  | .tup xs => D.nds xs
  | .dic _ _ | .dct _ _ | .ins _ _ _ | .obj _ => false
  | .non | .bl _ | .int _ | .str _ | .scr _ | .key _ => true
def D.nds : List D → Bool
  | [] => true
  | x :: xs => D.nd x && D.nds xs
end
mutual
theorem D.nd_lay : ∀ {d : D}, d.py.canLay0 = true → d.nd = true
  | .non, _ => by simp [D.nd]
  | .bl _, _ => by simp [D.nd]
  | .int _, _ => by simp [D.nd]
  | .str _, _ => by simp [D.nd]
  | .scr _, _ => by simp [D.nd]
  | .lst xs, h => by
    simp only [D.py, PyData.canLay0] at h
    simp only [D.nd]; exact D.nds_lay h
  | .tup xs, h => by
    simp only [D.py, PyData.canLay0] at h
    simp only [D.nd]; exact D.nds_lay h
  | .dic _ _, h => by simp [D.py, PyData.canLay0] at h
  | .dct _ _, h => by simp [D.py, PyData.canLay0] at h
  | .ins _ _ _, h => by simp [D.py, PyData.canLay0] at h
  | .obj _, h => by simp [D.py, PyData.canLay0] at h
  | .key _, _ => by simp [D.nd]
theorem D.nds_lay : ∀ {ds : List D}, PyData.canLayAll0 (D.pys ds) = true → D.nds ds = true
  | [], _ => by simp [D.nds]
  | x :: xs, h => by
    simp only [D.pys, PyData.canLayAll0, Bool.and_eq_true] at h
    simp only [D.nds, Bool.and_eq_true]
    exact ⟨D.nd_lay h.1, D.nds_lay h.2⟩
end
mutual
theorem Fz.dp {v : V} {d : D} (e : Ex B H) (n : d.nd = true) : Fz K B v d → Dp K H v d.py
  | .non => by simp only [D.py]; exact .non
  | .bl b => by simp only [D.py]; exact .bl b
  | .int i => by simp only [D.py]; exact .int i
  | .str x => by simp only [D.py]; exact .str x
  | .lst h hs => by simp only [D.py]; exact .lst (.inl (.inl (e _ _ h))) (Fzs.dp e (by simpa only [D.nd] using n) hs)
  | .tup h hs => by simp only [D.py]; exact .tup (e.st h) (Fzs.dp e (by simpa only [D.nd] using n) hs)
  | .scr h => by simp only [D.py]; exact .lst (e.sl h) (dp_ints _)
  | .dic _ _ _ => by simp [D.nd] at n
  | .dct _ _ _ => by simp [D.nd] at n
  | .ins _ _ _ _ => by simp [D.nd] at n
  | .obj _ => by simp [D.nd] at n
  | .key h => by simp only [D.py]; exact .tup (e.st (.inl (.inl h))) (dp_keys _)
theorem Fzs.dp {vs : List V} {ds : List D} (e : Ex B H) (n : D.nds ds = true) : Fzs K B vs ds → DpAll K H vs (D.pys ds)
  | .nil => by simp only [D.pys]; exact .nil
  | .cons h hs => by
    simp only [D.nds, Bool.and_eq_true] at n
    simp only [D.pys]
    exact .cons (Fz.dp e n.1 h) (Fzs.dp e n.2 hs)
end
theorem Fzs.len : ∀ {vs : List V} {ds : List D}, Fzs K B vs ds → vs.length = ds.length
  | _, _, .nil => rfl
  | _, _, .cons _ hs => by rw [List.length_cons, List.length_cons, Fzs.len hs]
theorem Fzs.get : ∀ {vs : List V} {ds : List D} {i : Nat} {d : D}, Fzs K B vs ds → ds[i]? = some d → ∃ v, vs[i]? = some v ∧ Fz K B v d
  | _, _, _, _, .nil, e => by simp at e
  | _, _, 0, _, .cons h _, e => by simp at e; subst e; exact ⟨_, rfl, h⟩
  | _, _, i + 1, d, .cons _ hs, e => by
    obtain ⟨v, h1, h2⟩ := Fzs.get (i := i) (d := d) hs (by simpa using e)
    exact ⟨v, by simpa using h1, h2⟩
theorem Fzs.getV : ∀ {vs : List V} {ds : List D} {i : Nat} {v : V}, Fzs K B vs ds → vs[i]? = some v → ∃ d, ds[i]? = some d ∧ Fz K B v d
  | _, _, _, _, .nil, e => by simp at e
  | _, _, 0, _, .cons h _, e => by simp at e; subst e; exact ⟨_, rfl, h⟩
  | _, _, i + 1, d, .cons _ hs, e => by
    obtain ⟨v, h1, h2⟩ := Fzs.getV (i := i) (v := d) hs (by simpa using e)
    exact ⟨v, by simpa using h1, h2⟩
theorem Fzs.append : ∀ {vs ws : List V} {ds es : List D}, Fzs K B vs ds → Fzs K B ws es → Fzs K B (vs ++ ws) (ds ++ es)
  | _, _, _, _, .nil, h => h
  | _, _, _, _, .cons a t, h => .cons a (Fzs.append t h)
theorem Fzs.set : ∀ {vs : List V} {ds : List D} {v : V} {d : D} (i : Nat), Fzs K B vs ds → Fz K B v d → Fzs K B (vs.set i v) (ds.set i d)
  | _, _, _, _, _, .nil, _ => .nil
  | _, _, _, _, 0, .cons _ t, h => .cons h t
  | _, _, _, _, i + 1, .cons a t, h => .cons a (Fzs.set i t h)
theorem Fzs.take : ∀ {vs : List V} {ds : List D} (n : Nat), Fzs K B vs ds → Fzs K B (vs.take n) (ds.take n)
  | _, _, 0, _ => .nil
  | _, _, _ + 1, .nil => .nil
  | _, _, n + 1, .cons a t => .cons a (Fzs.take n t)
theorem Fzs.drop : ∀ {vs : List V} {ds : List D} (n : Nat), Fzs K B vs ds → Fzs K B (vs.drop n) (ds.drop n)
  | _, _, 0, h => h
  | _, _, _ + 1, .nil => .nil
  | _, _, n + 1, .cons a t => Fzs.drop n t
theorem Fzs.reverse : ∀ {vs : List V} {ds : List D}, Fzs K B vs ds → Fzs K B vs.reverse ds.reverse
  | _, _, .nil => .nil
  | _, _, .cons a t => by
    rw [List.reverse_cons, List.reverse_cons]
    exact Fzs.append (Fzs.reverse t) (.cons a .nil)
theorem Fzs.ints : ∀ {vs : List V} {ns : List Int}, Fzs K B vs (ns.map D.int) → vs = ns.map V.int
  | _, [], .nil => rfl
  | _, n :: ns, .cons (.int _) t => by rw [List.map_cons, Fzs.ints t]
end
mutual

inductive Mk where
  | z
  | l (m : Mk)
  | t (ms : Mks)
  | e (m : Mk)
  | g (m : Mk)
  | h (ms : Mks)
inductive Mks where
  | nil
  | cons (m : Mk) (r : Mks)
end
inductive Ob where
  | ff
  | tt
  | dp (m : Mk)
  | al
inductive Slot where
  | un
  | fz (d : D)
  | ow (d : D)
  | io (d : D)
  | dp (m : Mk) (d : D)
abbrev Env := List Slot
def Ct (H : Hp) (a : Addr) : Prop := ∃ o, H a = some o ∧ ∀ xs, o ≠ .tup xs
theorem Ct.ne {H : Hp} {a : Addr} (h : Ct H a) : H a ≠ none := by obtain ⟨o, e, _⟩ := h; rw [e]; simp
theorem Ct.of {H : Hp} {a : Addr} {o : HO} (e : H a = some o) (n : ∀ xs, o ≠ .tup xs) : Ct H a := ⟨o, e, n⟩
theorem Ct.to {H H' : Hp} {a : Addr} (h : Ct H a) (k : ∀ o, H a = some o → H' a = some o) : Ct H' a := by obtain ⟨o, e, n⟩ := h; exact ⟨o, k o e, n⟩
def Ow (K : PySem.W.Frag) (B H : Hp) (a : Addr) : D → Prop
  | .lst ds => B a = none ∧ ∃ vs, H a = some (.lst vs) ∧ Fzs K B vs ds
  | .dic ks ds => B a = none ∧ ∃ vs, H a = some (.dK (dkv ks vs)) ∧ ks.length = vs.length ∧ Fzs K B vs ds
  | .dct ks ds => B a = none ∧ ∃ vs, H a = some (.dT (dkt ks vs)) ∧ ks.length = vs.length ∧ Fzs K B vs ds
  | .ins c ks ds => B a = none ∧ ∃ vs C dx, H a = some (.ins C dx (dki ks vs)) ∧ ks.length = vs.length ∧ Fzs K B vs ds ∧ PySem.W.nsIn K mainGlobals c = some (some (.ref C))
  | _ => False
theorem Ow.hid {K : PySem.W.Frag} {B H : Hp} {a : Addr} {d : D} (h : Ow K B H a d) : B a = none := by
  cases d with
  | lst ds => exact h.1
  | dic ks ds => exact h.1
  | dct ks ds => exact h.1
  | ins c ks ds => exact h.1
  | _ => exact h.elim
theorem Ow.there {K : PySem.W.Frag} {B H : Hp} {a : Addr} {d : D} (h : Ow K B H a d) : Ct H a := by
  cases d with
  | lst ds => obtain ⟨_, vs, e, _⟩ := h; exact .of e fun _ z => nomatch z
  | dic ks ds => obtain ⟨_, vs, e, _⟩ := h; exact .of e fun _ z => nomatch z
  | dct ks ds => obtain ⟨_, vs, e, _⟩ := h; exact .of e fun _ z => nomatch z
  | ins c ks ds => obtain ⟨_, vs, C, dx, e, _⟩ := h; exact .of e fun _ z => nomatch z
  | _ => exact h.elim
theorem Ow.keep {K : PySem.W.Frag} {B H B' H' : Hp} {a : Addr} {d : D} (h : Ow K B H a d) (e : Ex B B') (h1 : B' a = none) (h2 : ∀ o, H a = some o → H' a = some o) : Ow K B' H' a d := by
  cases d with
  | lst ds => obtain ⟨_, vs, q, f⟩ := h; exact ⟨h1, vs, h2 _ q, f.mono e⟩
  | dic ks ds => obtain ⟨_, vs, q, l, f⟩ := h; exact ⟨h1, vs, h2 _ q, l, f.mono e⟩
  | dct ks ds => obtain ⟨_, vs, q, l, f⟩ := h; exact ⟨h1, vs, h2 _ q, l, f.mono e⟩
  | ins c ks ds => obtain ⟨_, vs, C, dx, q, l, f, k⟩ := h; exact ⟨h1, vs, C, dx, h2 _ q, l, f.mono e, k⟩
  | _ => exact h.elim
theorem Ow.fz {K : PySem.W.Frag} {B H : Hp} {a : Addr} {d : D} (h : Ow K B H a d) : ∃ o, H a = some o ∧ Fz K (upd B a o) (.ref a) d := by
  cases d with
  | lst ds =>
    obtain ⟨n, vs, q, f⟩ := h
    exact ⟨_, q, .lst upd_same (f.mono (Ex.new n))⟩
  | dic ks ds =>
    obtain ⟨n, vs, q, l, f⟩ := h
    exact ⟨_, q, .dic upd_same l (f.mono (Ex.new n))⟩
  | dct ks ds =>
    obtain ⟨n, vs, q, l, f⟩ := h
    exact ⟨_, q, .dct (.inl upd_same) l (f.mono (Ex.new n))⟩
  | ins c ks ds =>
    obtain ⟨n, vs, C, dx, q, l, f, k⟩ := h
    exact ⟨_, q, .ins k upd_same l (f.mono (Ex.new n))⟩
  | _ => exact h.elim
inductive Its (R : V → D → List Addr → Prop) : List V → List D → List Addr → Prop
  | nil : Its R [] [] []
  | cons {v : V} {vs : List V} {d : D} {ds : List D} {S T : List Addr} : R v d S → Its R vs ds T → Its R (v :: vs) (d :: ds) (S ++ T)
def Bx (K : PySem.W.Frag) (o : HO) (vs : List V) (ds : List D) : D → Prop
  | .dic ks ds' => ds' = ds ∧ o = .dK (dkv ks vs) ∧ ks.length = vs.length
  | .dct ks ds' => ds' = ds ∧ o = .dT (dkt ks vs) ∧ ks.length = vs.length
  | .ins c ks ds' => ds' = ds ∧ ks.length = vs.length ∧ ∃ C dx, o = .ins C dx (dki ks vs) ∧ PySem.W.nsIn K mainGlobals c = some (some (.ref C))
  | _ => False
theorem zipW_snd {α β : Type} (f : α → β) : ∀ {ks : List α} {vs : List V}, ks.length = vs.length → (List.zipWith (fun k v => (f k, v)) ks vs).map (·.2) = vs
  | [], [], _ => rfl
  | _ :: _, [], l => by simp at l
  | [], _ :: _, l => by simp at l
  | k :: ks, v :: vs, l => by
    rw [List.zipWith_cons_cons, List.map_cons, zipW_snd f (by simpa using l)]
theorem zip_det {α β : Type} (f : α → β) {ks ks' : List α} {vs vs' : List V} (l : ks.length = vs.length) (l' : ks'.length = vs'.length) (e : List.zipWith (fun k v => (f k, v)) ks vs = List.zipWith (fun k v => (f k, v)) ks' vs') : vs = vs' := by
  have := congrArg (List.map (·.2)) e
  rwa [zipW_snd f l, zipW_snd f l'] at this
theorem Bx.det {K : PySem.W.Frag} {o : HO} {vs vs' : List V} {ds ds' : List D} {d d' : D} (h : Bx K o vs ds d) (h' : Bx K o vs' ds' d') : vs = vs' := by
  cases d with
  | dic ks x =>
    obtain ⟨_, e, l⟩ := h
    cases d' with
    | dic ks' x' =>
      obtain ⟨_, e', l'⟩ := h'
      rw [e] at e'; injection e' with e'
      exact zip_det (fun k : Int => (Sum.inl k : L2.Key)) l l' e'
    | dct _ _ => rw [e] at h'; obtain ⟨_, e', _⟩ := h'; cases e'
    | ins _ _ _ => rw [e] at h'; obtain ⟨_, _, _, _, e', _⟩ := h'; cases e'
    | _ => exact h'.elim
  | dct ks x =>
    obtain ⟨_, e, l⟩ := h
    cases d' with
    | dct ks' x' =>
      obtain ⟨_, e', l'⟩ := h'
      rw [e] at e'; injection e' with e'
      exact zip_det (fun k : List L2.Key => k) l l' e'
    | dic _ _ => rw [e] at h'; obtain ⟨_, e', _⟩ := h'; cases e'
    | ins _ _ _ => rw [e] at h'; obtain ⟨_, _, _, _, e', _⟩ := h'; cases e'
    | _ => exact h'.elim
  | ins c ks x =>
    obtain ⟨_, l, C, dx, e, _⟩ := h
    cases d' with
    | ins c' ks' x' =>
      obtain ⟨_, l', C', dx', e', _⟩ := h'
      rw [e] at e'; injection e' with _ _ e'
      exact zip_det (fun k : Str => k) l l' e'
    | dic _ _ => rw [e] at h'; obtain ⟨_, e', _⟩ := h'; cases e'
    | dct _ _ => rw [e] at h'; obtain ⟨_, e', _⟩ := h'; cases e'
    | _ => exact h'.elim
  | _ => exact h.elim
theorem Bx.nt {K : PySem.W.Frag} {o : HO} {vs : List V} {ds : List D} {d : D} (h : Bx K o vs ds d) : ∀ xs, o ≠ .tup xs := by
  cases d with
  | dic _ _ => obtain ⟨_, rfl, _⟩ := h; exact fun _ z => nomatch z
  | dct _ _ => obtain ⟨_, rfl, _⟩ := h; exact fun _ z => nomatch z
  | ins _ _ _ => obtain ⟨_, _, _, _, rfl, _⟩ := h; exact fun _ z => nomatch z
  | _ => exact h.elim
theorem Bx.fz {K : PySem.W.Frag} {B : Hp} {a : Addr} {o : HO} {vs : List V} {ds : List D} {d : D} (h : Bx K o vs ds d) (q : B a = some o) (f : Fzs K B vs ds) : Fz K B (.ref a) d := by
  cases d with
  | dic _ _ => obtain ⟨rfl, rfl, l⟩ := h; exact .dic q l f
  | dct _ _ => obtain ⟨rfl, rfl, l⟩ := h; exact .dct (.inl q) l f
  | ins _ _ _ => obtain ⟨rfl, l, C, dx, rfl, k⟩ := h; exact .ins k q l f
  | _ => exact h.elim
def dd : List Addr → List Addr
  | [] => []
  | a :: r => if a ∈ dd r then dd r else a :: dd r
theorem mem_dd {x : Addr} : ∀ {l : List Addr}, x ∈ dd l ↔ x ∈ l
  | [] => Iff.rfl
  | a :: r => by
    unfold dd
    by_cases h : a ∈ dd r
    · rw [if_pos h, mem_dd (l := r), List.mem_cons]
      exact ⟨.inr, fun z => z.elim (fun e => by rw [e]; exact mem_dd.mp h) id⟩
    · rw [if_neg h, List.mem_cons, List.mem_cons, mem_dd (l := r)]
mutual
def Tr (K : PySem.W.Frag) (B H : Hp) : Mk → V → D → List Addr → Prop
  | .z, v, d, S => Fz K B v d ∧ S = []
  | .l m, v, d, S => ∃ a vs ds T, v = .ref a ∧ d = .lst ds ∧ B a = none ∧ H a = some (.lst vs) ∧ Its (Tr K B H m) vs ds T ∧ S = a :: T
  | .t ms, v, d, S => ∃ a vs ds, v = .ref a ∧ d = .tup ds ∧ B a = some (.tup vs) ∧ TrT K B H ms vs ds S
  | .e m, v, d, S => ∃ a o vs ds T, v = .ref a ∧ B a = none ∧ H a = some o ∧ Bx K o vs ds d ∧ Its (Tr K B H m) vs ds T ∧ S = a :: T
  | .g m, v, d, S => ∃ S0, Tr K B H m v d S0 ∧ S = dd S0
  | .h ms, v, d, S => ∃ a vs ds T, v = .ref a ∧ d = .lst ds ∧ B a = none ∧ H a = some (.lst vs) ∧ TrT K B H ms vs ds T ∧ S = a :: T
def TrT (K : PySem.W.Frag) (B H : Hp) : Mks → List V → List D → List Addr → Prop
  | .nil, vs, ds, S => vs = [] ∧ ds = [] ∧ S = []
  | .cons m r, vs, ds, S => ∃ v vs' d ds' S1 S2, vs = v :: vs' ∧ ds = d :: ds' ∧ Tr K B H m v d S1 ∧ TrT K B H r vs' ds' S2 ∧ S = S1 ++ S2
end
theorem Its.imp {R R' : V → D → List Addr → Prop} {vs : List V} {ds : List D} {S : List Addr} (h : Its R vs ds S) : (∀ v d T, R v d T → (∀ a ∈ T, a ∈ S) → R' v d T) → Its R' vs ds S := by
  induction h with
  | nil => exact fun _ => .nil
  | cons a t ih => exact fun k => .cons (k _ _ _ a fun x hx => List.mem_append_left _ hx) (ih fun v d T r q => k v d T r fun x hx => List.mem_append_right _ (q x hx))
theorem Its.all {R : V → D → List Addr → Prop} {p : Addr → Prop} {vs : List V} {ds : List D} {S : List Addr} (h : Its R vs ds S) (k : ∀ v d T, R v d T → ∀ a ∈ T, p a) : ∀ a ∈ S, p a := by
  induction h with
  | nil => exact fun a q => nomatch q
  | cons a t ih => exact fun x q => (List.mem_append.mp q).elim (k _ _ _ a x) (ih x)
theorem Its.det {R R' : V → D → List Addr → Prop} {vs : List V} {ds ds' : List D} {S S' : List Addr} (h : Its R vs ds S) (h' : Its R' vs ds' S') (k : ∀ v d d' T T', R v d T → R' v d' T' → T = T') : S = S' := by
  induction h generalizing ds' S' with
  | nil => cases h'; rfl
  | cons a t ih =>
    cases h' with
    | cons a' t' => rw [k _ _ _ _ _ a a', ih t']
theorem Its.len {R : V → D → List Addr → Prop} {vs : List V} {ds : List D} {S : List Addr} (h : Its R vs ds S) : vs.length = ds.length := by
  induction h with
  | nil => rfl
  | cons a t ih => rw [List.length_cons, List.length_cons, ih]
section
variable {K : PySem.W.Frag} {B B' H H' : Hp}
mutual
theorem Tr.keep : ∀ {m : Mk} {v : V} {d : D} {S : List Addr}, Tr K B H m v d S → Ex B B' → (∀ a ∈ S, B' a = none) → (∀ a ∈ S, ∀ o, H a = some o → H' a = some o) → Tr K B' H' m v d S
  | .z, _, _, _, h, e, _, _ => by
    unfold Tr at h ⊢
    exact ⟨h.1.mono e, h.2⟩
  | .l m, _, _, _, h, e, h1, h2 => by
    unfold Tr at h ⊢
    obtain ⟨a, vs, ds, T, rfl, rfl, b, q, i, rfl⟩ := h
    exact ⟨a, vs, ds, T, rfl, rfl, h1 a (by simp), h2 a (by simp) _ q, i.imp fun v d T' r s => Tr.keep (m := m) r e (fun x hx => h1 x (List.mem_cons_of_mem _ (s x hx))) (fun x hx => h2 x (List.mem_cons_of_mem _ (s x hx))), rfl⟩
  | .t ms, _, _, _, h, e, h1, h2 => by
    unfold Tr at h ⊢
    obtain ⟨a, vs, ds, rfl, rfl, b, i⟩ := h
    exact ⟨a, vs, ds, rfl, rfl, e _ _ b, TrT.keep (ms := ms) i e h1 h2⟩
  | .e m, _, _, _, h, e, h1, h2 => by
    unfold Tr at h ⊢
    obtain ⟨a, o, vs, ds, T, rfl, b, q, x, i, rfl⟩ := h
    exact ⟨a, o, vs, ds, T, rfl, h1 a (by simp), h2 a (by simp) _ q, x, i.imp fun v d T' r s => Tr.keep (m := m) r e (fun x hx => h1 x (List.mem_cons_of_mem _ (s x hx))) (fun x hx => h2 x (List.mem_cons_of_mem _ (s x hx))), rfl⟩
  | .g m, _, _, _, h, e, h1, h2 => by
    unfold Tr at h ⊢
    obtain ⟨S0, t, rfl⟩ := h
    exact ⟨S0, Tr.keep (m := m) t e (fun x hx => h1 x (mem_dd.mpr hx)) (fun x hx => h2 x (mem_dd.mpr hx)), rfl⟩
  | .h ms, _, _, _, h, e, h1, h2 => by
    unfold Tr at h ⊢
    obtain ⟨a, vs, ds, T, rfl, rfl, b, q, i, rfl⟩ := h
    exact ⟨a, vs, ds, T, rfl, rfl, h1 a (by simp), h2 a (by simp) _ q, TrT.keep (ms := ms) i e (fun x hx => h1 x (List.mem_cons_of_mem _ hx)) (fun x hx => h2 x (List.mem_cons_of_mem _ hx)), rfl⟩
theorem TrT.keep : ∀ {ms : Mks} {vs : List V} {ds : List D} {S : List Addr}, TrT K B H ms vs ds S → Ex B B' → (∀ a ∈ S, B' a = none) → (∀ a ∈ S, ∀ o, H a = some o → H' a = some o) → TrT K B' H' ms vs ds S
  | .nil, _, _, _, h, _, _, _ => by
    unfold TrT at h ⊢
    exact h
  | .cons m r, _, _, _, h, e, h1, h2 => by
    unfold TrT at h ⊢
    obtain ⟨v, vs, d, ds, S1, S2, rfl, rfl, t1, t2, rfl⟩ := h
    exact ⟨v, vs, d, ds, S1, S2, rfl, rfl, Tr.keep (m := m) t1 e (fun x hx => h1 x (List.mem_append_left _ hx)) (fun x hx => h2 x (List.mem_append_left _ hx)), TrT.keep (ms := r) t2 e (fun x hx => h1 x (List.mem_append_right _ hx)) (fun x hx => h2 x (List.mem_append_right _ hx)), rfl⟩
end
mutual
theorem Tr.det : ∀ {m : Mk} {v : V} {d d' : D} {S S' : List Addr}, Tr K B H m v d S → Tr K B H m v d' S' → S = S'
  | .z, _, _, _, _, _, h, h' => by
    unfold Tr at h h'
    rw [h.2, h'.2]
  | .l m, _, _, _, _, _, h, h' => by
    unfold Tr at h h'
    obtain ⟨a, vs, ds, T, rfl, rfl, b, q, i, rfl⟩ := h
    obtain ⟨a', vs', ds', T', e, rfl, b', q', i', rfl⟩ := h'
    injection e with e; subst e
    rw [q] at q'; injection q' with q'; injection q' with q'; subst q'
    rw [i.det i' fun v d d' T T' r r' => Tr.det (m := m) r r']
  | .t ms, _, _, _, _, _, h, h' => by
    unfold Tr at h h'
    obtain ⟨a, vs, ds, rfl, rfl, b, i⟩ := h
    obtain ⟨a', vs', ds', e, rfl, b', i'⟩ := h'
    injection e with e; subst e
    rw [b] at b'; injection b' with b'; injection b' with b'; subst b'
    rw [TrT.det (ms := ms) i i']
  | .e m, _, _, _, _, _, h, h' => by
    unfold Tr at h h'
    obtain ⟨a, o, vs, ds, T, rfl, b, q, x, i, rfl⟩ := h
    obtain ⟨a', o', vs', ds', T', e, b', q', x', i', rfl⟩ := h'
    injection e with e; subst e
    rw [q] at q'; injection q' with q'; subst q'
    have ev := x.det x'
    subst ev
    rw [i.det i' fun v d d' T T' r r' => Tr.det (m := m) r r']
  | .g m, _, _, _, _, _, h, h' => by
    unfold Tr at h h'
    obtain ⟨S0, t, rfl⟩ := h
    obtain ⟨S0', t', rfl⟩ := h'
    rw [Tr.det (m := m) t t']
  | .h ms, _, _, _, _, _, h, h' => by
    unfold Tr at h h'
    obtain ⟨a, vs, ds, T, rfl, rfl, b, q, i, rfl⟩ := h
    obtain ⟨a', vs', ds', T', e, rfl, b', q', i', rfl⟩ := h'
    injection e with e; subst e
    rw [q] at q'; injection q' with q'; injection q' with q'; subst q'
    rw [TrT.det (ms := ms) i i']
theorem TrT.det : ∀ {ms : Mks} {vs : List V} {ds ds' : List D} {S S' : List Addr}, TrT K B H ms vs ds S → TrT K B H ms vs ds' S' → S = S'
  | .nil, _, _, _, _, _, h, h' => by
    unfold TrT at h h'
    rw [h.2.2, h'.2.2]
  | .cons m r, _, _, _, _, _, h, h' => by
    unfold TrT at h h'
    obtain ⟨v, vs, d, ds, S1, S2, rfl, rfl, t1, t2, rfl⟩ := h
    obtain ⟨v', vs', d', ds', S1', S2', e, rfl, t1', t2', rfl⟩ := h'
    injection e with e1 e2; subst e1; subst e2
    rw [Tr.det (m := m) t1 t1', TrT.det (ms := r) t2 t2']
end
mutual
theorem Tr.hid : ∀ {m : Mk} {v : V} {d : D} {S : List Addr}, Tr K B H m v d S → ∀ a ∈ S, B a = none ∧ Ct H a
  | .z, _, _, _, h => by
    unfold Tr at h
    rw [h.2]; exact fun a q => nomatch q
  | .l m, _, _, _, h => by
    unfold Tr at h
    obtain ⟨a, vs, ds, T, rfl, rfl, b, q, i, rfl⟩ := h
    intro x hx
    rcases List.mem_cons.mp hx with rfl | hx
    · exact ⟨b, .of q fun _ z => nomatch z⟩
    · exact i.all (fun v d T r => Tr.hid (m := m) r) x hx
  | .t ms, _, _, _, h => by
    unfold Tr at h
    obtain ⟨a, vs, ds, rfl, rfl, b, i⟩ := h
    exact TrT.hid (ms := ms) i
  | .e m, _, _, _, h => by
    unfold Tr at h
    obtain ⟨a, o, vs, ds, T, rfl, b, q, bx, i, rfl⟩ := h
    intro x hx
    rcases List.mem_cons.mp hx with rfl | hx
    · exact ⟨b, .of q bx.nt⟩
    · exact i.all (fun v d T r => Tr.hid (m := m) r) x hx
  | .g m, _, _, _, h => by
    unfold Tr at h
    obtain ⟨S0, t, rfl⟩ := h
    exact fun x hx => Tr.hid (m := m) t x (mem_dd.mp hx)
  | .h ms, _, _, _, h => by
    unfold Tr at h
    obtain ⟨a, vs, ds, T, rfl, rfl, b, q, i, rfl⟩ := h
    intro x hx
    rcases List.mem_cons.mp hx with rfl | hx
    · exact ⟨b, .of q fun _ z => nomatch z⟩
    · exact TrT.hid (ms := ms) i x hx
theorem TrT.hid : ∀ {ms : Mks} {vs : List V} {ds : List D} {S : List Addr}, TrT K B H ms vs ds S → ∀ a ∈ S, B a = none ∧ Ct H a
  | .nil, _, _, _, h => by
    unfold TrT at h
    rw [h.2.2]; exact fun a q => nomatch q
  | .cons m r, _, _, _, h => by
    unfold TrT at h
    obtain ⟨v, vs, d, ds, S1, S2, rfl, rfl, t1, t2, rfl⟩ := h
    exact fun x hx => (List.mem_append.mp hx).elim (Tr.hid (m := m) t1 x) (TrT.hid (ms := r) t2 x)
end
def frzB (B H : Hp) (S : List Addr) : Hp := fun a => if a ∈ S then H a else B a
theorem frzB_in {S : List Addr} {a : Addr} (h : a ∈ S) : frzB B H S a = H a := if_pos h
theorem frzB_out {S : List Addr} {a : Addr} (h : a ∉ S) : frzB B H S a = B a := if_neg h
theorem frzB_ex {S : List Addr} (ex : Ex B H) : Ex B (frzB B H S) := fun a o e => by
  by_cases h : a ∈ S
  · rw [frzB_in h]; exact ex a o e
  · rw [frzB_out h]; exact e
theorem frzB_up {S : List Addr} (ex : Ex B H) : Ex (frzB B H S) H := fun a o e => by
  by_cases h : a ∈ S
  · rw [frzB_in h] at e; exact e
  · rw [frzB_out h] at e; exact ex a o e
theorem Its.fzs {m : Mk} {T : List Addr} {vs : List V} {ds : List D} {S : List Addr} (k : ∀ v d S, Tr K B H m v d S → (∀ a ∈ S, a ∈ T) → Fz K (frzB B H T) v d) (h : Its (Tr K B H m) vs ds S) : (∀ a ∈ S, a ∈ T) → Fzs K (frzB B H T) vs ds := by
  induction h with
  | nil => exact fun _ => .nil
  | cons a t ih => exact fun hs => .cons (k _ _ _ a fun x hx => hs x (List.mem_append_left _ hx)) (ih fun x hx => hs x (List.mem_append_right _ hx))
mutual
theorem Tr.fz (ex : Ex B H) {T : List Addr} : ∀ {m : Mk} {v : V} {d : D} {S : List Addr}, Tr K B H m v d S → (∀ a ∈ S, a ∈ T) → Fz K (frzB B H T) v d
  | .z, _, _, _, h, _ => by
    unfold Tr at h
    exact h.1.mono (frzB_ex ex)
  | .l m, _, _, _, h, s => by
    unfold Tr at h
    obtain ⟨a, vs, ds, S, rfl, rfl, b, q, i, rfl⟩ := h
    exact .lst (by rw [frzB_in (s a (by simp))]; exact q) (i.fzs (fun v d S r => Tr.fz ex (m := m) r) fun x hx => s x (List.mem_cons_of_mem _ hx))
  | .t ms, _, _, _, h, s => by
    unfold Tr at h
    obtain ⟨a, vs, ds, rfl, rfl, b, i⟩ := h
    exact .tup (.inl (.inl (frzB_ex ex _ _ b))) (TrT.fz ex (ms := ms) i s)
  | .e m, _, _, _, h, s => by
    unfold Tr at h
    obtain ⟨a, o, vs, ds, S, rfl, b, q, bx, i, rfl⟩ := h
    exact bx.fz (by rw [frzB_in (s a (by simp))]; exact q) (i.fzs (fun v d S r => Tr.fz ex (m := m) r) fun x hx => s x (List.mem_cons_of_mem _ hx))
  | .g m, _, _, _, h, s => by
    unfold Tr at h
    obtain ⟨S0, t, rfl⟩ := h
    exact Tr.fz ex (m := m) t fun x hx => s x (mem_dd.mpr hx)
  | .h ms, _, _, _, h, s => by
    unfold Tr at h
    obtain ⟨a, vs, ds, S, rfl, rfl, b, q, i, rfl⟩ := h
    exact .lst (by rw [frzB_in (s a (by simp))]; exact q) (TrT.fz ex (ms := ms) i fun x hx => s x (List.mem_cons_of_mem _ hx))
theorem TrT.fz (ex : Ex B H) {T : List Addr} : ∀ {ms : Mks} {vs : List V} {ds : List D} {S : List Addr}, TrT K B H ms vs ds S → (∀ a ∈ S, a ∈ T) → Fzs K (frzB B H T) vs ds
  | .nil, _, _, _, h, _ => by
    unfold TrT at h
    obtain ⟨rfl, rfl, _⟩ := h
    exact .nil
  | .cons m r, _, _, _, h, s => by
    unfold TrT at h
    obtain ⟨v, vs, d, ds, S1, S2, rfl, rfl, t1, t2, rfl⟩ := h
    exact .cons (Tr.fz ex (m := m) t1 fun x hx => s x (List.mem_append_left _ hx)) (TrT.fz ex (ms := r) t2 fun x hx => s x (List.mem_append_right _ hx))
end
end
structure Fr where
  B0 : Hp
  H0 : Hp
  A : Addr → Prop
  P : List (Option Addr)
def owned : Slot → Bool
  | .ow _ => true
  | .io _ => true
  | .dp _ _ => true
  | _ => false
def flat : Slot → Bool
  | .ow _ => true
  | .io _ => true
  | _ => false
theorem flat_owned {s : Slot} (h : flat s = true) : owned s = true := by cases s <;> first | rfl | cases h
def Slot.dat : Slot → D
  | .un => .non
  | .fz d => d
  | .ow d => d
  | .io d => d
  | .dp _ d => d
def Ft (K : PySem.W.Frag) (B H : Hp) (v : V) : Slot → List Addr → Prop
  | .ow d, S => ∃ a, v = .ref a ∧ Ow K B H a d ∧ S = [a]
  | .io d, S => ∃ a, v = .ref a ∧ Ow K B H a d ∧ S = [a]
  | .dp m d, S => Tr K B H m v d S ∧ S.Nodup
  | .un, _ => False
  | .fz _, _ => False
section
variable {K : PySem.W.Frag} {B B' H H' : Hp} {v : V} {s : Slot} {S T : List Addr}
theorem Ft.owned (h : Ft K B H v s S) : owned s = true := by cases s <;> first | rfl | exact h.elim
theorem Ft.hid (h : Ft K B H v s S) : ∀ a ∈ S, B a = none ∧ Ct H a := by
  cases s with
  | un => exact h.elim
  | fz _ => exact h.elim
  | ow d => obtain ⟨a, rfl, w, rfl⟩ := h; intro x hx; rw [List.mem_singleton.mp hx]; exact ⟨w.hid, w.there⟩
  | io d => obtain ⟨a, rfl, w, rfl⟩ := h; intro x hx; rw [List.mem_singleton.mp hx]; exact ⟨w.hid, w.there⟩
  | dp m d => exact h.1.hid
theorem Ft.keep (h : Ft K B H v s S) (e : Ex B B') (h1 : ∀ a ∈ S, B' a = none) (h2 : ∀ a ∈ S, ∀ o, H a = some o → H' a = some o) : Ft K B' H' v s S := by
  cases s with
  | un => exact h.elim
  | fz _ => exact h.elim
  | ow d => obtain ⟨a, rfl, w, rfl⟩ := h; exact ⟨a, rfl, w.keep e (h1 a (by simp)) (h2 a (by simp)), rfl⟩
  | io d => obtain ⟨a, rfl, w, rfl⟩ := h; exact ⟨a, rfl, w.keep e (h1 a (by simp)) (h2 a (by simp)), rfl⟩
  | dp m d => exact ⟨h.1.keep e h1 h2, h.2⟩
theorem Ft.det (h : Ft K B H v s S) (h' : Ft K B H v s T) : S = T := by
  cases s with
  | un => exact h.elim
  | fz _ => exact h.elim
  | ow d => obtain ⟨a, rfl, w, rfl⟩ := h; obtain ⟨a', e, w', rfl⟩ := h'; injection e with e; rw [e]
  | io d => obtain ⟨a, rfl, w, rfl⟩ := h; obtain ⟨a', e, w', rfl⟩ := h'; injection e with e; rw [e]
  | dp m d => exact h.1.det h'.1
theorem Ft.one {a : Addr} (h : Ft K B H (.ref a) s S) (f : flat s = true) : Ow K B H a s.dat ∧ S = [a] := by
  cases s with
  | ow d => obtain ⟨a', e, w, rfl⟩ := h; injection e with e; subst e; exact ⟨w, rfl⟩
  | io d => obtain ⟨a', e, w, rfl⟩ := h; injection e with e; subst e; exact ⟨w, rfl⟩
  | _ => cases f
theorem Ft.mk {a : Addr} (w : Ow K B H a s.dat) (f : flat s = true) : Ft K B H (.ref a) s [a] := by
  cases s with
  | ow d => exact ⟨a, rfl, w, rfl⟩
  | io d => exact ⟨a, rfl, w, rfl⟩
  | _ => cases f
end
def OwS (K : PySem.W.Frag) (B H : Hp) (ρ : Env) (σ : St) (a : Addr) : Prop := ∃ (i : Nat) (s : Slot) (v : V) (S : List Addr), ρ[i]? = some s ∧ σ[i]? = some (some v) ∧ Ft K B H v s S ∧ a ∈ S
structure Lv (K : PySem.W.Frag) (F : Fr) (ρ : Env) (σ : St) (B H : Hp) : Prop where
  ex : Ex B H
  kept : ∀ a o, F.H0 a = some o → ¬ F.A a → H a = some o
  there : ∀ a, F.H0 a ≠ none → H a ≠ none
  exB : Ex F.B0 B
  hid : ∀ a, F.B0 a = none → Ct F.H0 a → ¬ F.A a → B a = none
  fz : ∀ (i : Nat) (d : D), ρ[i]? = some (Slot.fz d) → ∃ v, σ[i]? = some (some v) ∧ Fz K B v d
  own0 : ∀ (i : Nat) (s : Slot), ρ[i]? = some s → owned s = true → ∃ v S, σ[i]? = some (some v) ∧ Ft K B H v s S ∧ ∀ a ∈ S, F.A a ∨ F.H0 a = none
  io : ∀ (i : Nat) (d : D), ρ[i]? = some (Slot.io d) → ∃ a, F.P[i]? = some (some a) ∧ σ[i]? = some (some (V.ref a))
  ne0 : ∀ (i j : Nat) (s t : Slot) (v w : V) (S T : List Addr) (a : Addr), ρ[i]? = some s → ρ[j]? = some t → σ[i]? = some (some v) → σ[j]? = some (some w) → Ft K B H v s S → Ft K B H w t T → a ∈ S → a ∈ T → i = j
  len : ρ.length = σ.length
section
variable {K : PySem.W.Frag} {F : Fr} {ρ : Env} {σ : St} {B H B' H' : Hp} {t : Slot}
theorem Lv.ow (L : Lv K F ρ σ B H) (i : Nat) (s : Slot) (e : ρ[i]? = some s) (f : flat s = true) : ∃ a, σ[i]? = some (some (V.ref a)) ∧ Ow K B H a s.dat ∧ (F.A a ∨ F.H0 a = none) := by
  obtain ⟨v, S, q, w, g⟩ := L.own0 i s e (flat_owned f)
  have hv : ∃ a, v = .ref a := by
    cases s with
    | ow d => obtain ⟨a, h, _⟩ := w; exact ⟨a, h⟩
    | io d => obtain ⟨a, h, _⟩ := w; exact ⟨a, h⟩
    | _ => cases f
  obtain ⟨a, rfl⟩ := hv
  obtain ⟨w1, rfl⟩ := w.one f
  exact ⟨a, q, w1, g a (by simp)⟩
theorem OwS.mk {i : Nat} {s : Slot} {a : Addr} (e : ρ[i]? = some s) (f : flat s = true) (q : σ[i]? = some (some (V.ref a))) (w : Ow K B H a s.dat) : OwS K B H ρ σ a := ⟨i, s, _, [a], e, q, .mk w f, by simp⟩
theorem Lv.hidOw (L : Lv K F ρ σ B H) {a : Addr} (h : OwS K B H ρ σ a) : B a = none ∧ Ct H a := by
  obtain ⟨i, s, v, S, e, q, w, m⟩ := h
  exact w.hid a m
theorem Lv.ofOw (L : Lv K F ρ σ B H) {a : Addr} (h : OwS K B H ρ σ a) : F.A a ∨ F.H0 a = none := by
  obtain ⟨i, s, v, S, e, q, w, m⟩ := h
  obtain ⟨v', S', q', w', g⟩ := L.own0 i s e w.owned
  rw [q] at q'; injection q' with q'; injection q' with q'; subst q'
  rw [w.det w'] at m
  exact g a m
theorem Lv.move (L : Lv K F ρ σ B H) (ex : Ex B' H') (eB : Ex B B') (k : ∀ a, OwS K B H ρ σ a → B' a = none ∧ ∀ o, H a = some o → H' a = some o)
    (kept : ∀ a o, F.H0 a = some o → ¬ F.A a → H' a = some o) (there : ∀ a, F.H0 a ≠ none → H' a ≠ none) (hid : ∀ a, F.B0 a = none → Ct F.H0 a → ¬ F.A a → B' a = none) : Lv K F ρ σ B' H' := by
  have kp : ∀ {i : Nat} {s : Slot} {v : V} {S : List Addr}, ρ[i]? = some s → σ[i]? = some (some v) → Ft K B H v s S → Ft K B' H' v s S := fun {i s v S} e q w =>
    w.keep eB (fun a m => (k a ⟨i, s, v, S, e, q, w, m⟩).1) (fun a m => (k a ⟨i, s, v, S, e, q, w, m⟩).2)
  refine ⟨ex, kept, there, L.exB.trans eB, hid, fun i d e => ?_, fun i s e w => ?_, L.io, fun i j s t v w S T a e1 e2 q1 q2 f1 f2 m1 m2 => ?_, L.len⟩
  · obtain ⟨v, e1, f⟩ := L.fz i d e
    exact ⟨v, e1, f.mono eB⟩
  · obtain ⟨v, S, q, f, g⟩ := L.own0 i s e w
    exact ⟨v, S, q, kp e q f, g⟩
  · obtain ⟨v', S', q1', f1', _⟩ := L.own0 i s e1 f1.owned
    obtain ⟨w', T', q2', f2', _⟩ := L.own0 j t e2 f2.owned
    rw [q1] at q1'; injection q1' with q1'; injection q1' with q1'; subst q1'
    rw [q2] at q2'; injection q2' with q2'; injection q2' with q2'; subst q2'
    rw [f1.det (kp e1 q1 f1')] at m1
    rw [f2.det (kp e2 q2 f2')] at m2
    exact L.ne0 i j s t v w S' T' a e1 e2 q1 q2 f1' f2' m1 m2
theorem Lv.few (L : Lv K F ρ σ B H) {ρ' : Env} {σ' : St} (len : ρ'.length = σ'.length) (fz : ∀ (i : Nat) (d : D), ρ'[i]? = some (Slot.fz d) → ∃ v, σ'[i]? = some (some v) ∧ Fz K B v d)
    (ow : ∀ (i : Nat) (s : Slot), ρ'[i]? = some s → owned s = true → ρ[i]? = some s ∧ σ'[i]? = σ[i]?) : Lv K F ρ' σ' B H := by
  refine ⟨L.ex, L.kept, L.there, L.exB, L.hid, fz, fun i s e w => ?_, fun i d e => ?_, fun i j s t v w S T a e1 e2 q1 q2 f1 f2 m1 m2 => ?_, len⟩
  · obtain ⟨h1, h2⟩ := ow i s e w
    rw [h2]; exact L.own0 i s h1 w
  · obtain ⟨h1, h2⟩ := ow i _ e rfl
    rw [h2]; exact L.io i d h1
  · obtain ⟨h1, h2⟩ := ow i s e1 f1.owned
    obtain ⟨h3, h4⟩ := ow j t e2 f2.owned
    exact L.ne0 i j s t v w S T a h1 h3 (h2 ▸ q1) (h4 ▸ q2) f1 f2 m1 m2
theorem Lv.alloc (L : Lv K F ρ σ B H) {p : Addr} {o : HO} (h : H p = none) : Lv K F ρ σ (upd B p o) (upd H p o) := by
  have nB : B p = none := L.ex.nn h
  refine L.move L.ex.both (Ex.new nB) (fun a w => ?_) (fun a u e n => ?_) (fun a e => upd_some (L.there a e)) (fun a e n m => ?_)
  · have nap : a ≠ p := fun z => (L.hidOw w).2.ne (z ▸ h)
    exact ⟨by rw [upd_ne nap]; exact (L.hidOw w).1, fun u q => by rw [upd_ne nap]; exact q⟩
  · have := L.kept a u e n
    rw [upd_ne (ne_of_none this h)]; exact this
  · have := L.hid a e n m
    by_cases q : a = p
    · subst q
      cases z : F.H0 a with
      | none => exact absurd z n.ne
      | some u => rw [L.kept a u z m] at h; cases h
    · rw [upd_ne q]; exact this
theorem Lv.allocO (L : Lv K F ρ σ B H) {p : Addr} {o : HO} (h : H p = none) : Lv K F ρ σ B (upd H p o) := by
  have nB : B p = none := L.ex.nn h
  refine L.move (L.ex.right nB) (Ex.refl _) (fun a w => ?_) (fun a u e n => ?_) (fun a e => upd_some (L.there a e)) L.hid
  · have nap : a ≠ p := fun z => (L.hidOw w).2.ne (z ▸ h)
    exact ⟨(L.hidOw w).1, fun u q => by rw [upd_ne nap]; exact q⟩
  · have := L.kept a u e n
    rw [upd_ne (ne_of_none this h)]; exact this
theorem Lv.freezeS (L : Lv K F ρ σ B H) {S : List Addr} (g : ∀ a ∈ S, F.A a ∨ F.H0 a = none) (no : ∀ a ∈ S, ¬ OwS K B H ρ σ a) : Lv K F ρ σ (frzB B H S) H := by
  refine L.move (frzB_up L.ex) (frzB_ex L.ex) (fun a w => ?_) L.kept L.there (fun a e m k => ?_)
  · exact ⟨by rw [frzB_out fun z => no a z w]; exact (L.hidOw w).1, fun _ q => q⟩
  · rw [frzB_out fun z => (g a z).elim k m.ne]; exact L.hid a e m k
theorem Lv.freeze (L : Lv K F ρ σ B H) {p : Addr} {o : HO} (h : H p = some o) (n : B p = none) (g : F.A p ∨ F.H0 p = none) (no : ¬ OwS K B H ρ σ p) : Lv K F ρ σ (upd B p o) H := by
  have e : frzB B H [p] = upd B p o := by
    funext a
    by_cases z : a = p
    · subst z; rw [frzB_in (by simp), upd_same, h]
    · rw [frzB_out (by simpa using z), upd_ne z]
  rw [← e]
  exact L.freezeS (by simpa using g) (by simpa using no)
theorem Lv.freezeT (L : Lv K F ρ σ B H) {p : Addr} {xs : List V} (h : H p = some (.tup xs)) (n : B p = none) : Lv K F ρ σ (upd B p (.tup xs)) H := by
  refine L.move (fun a o e => ?_) (Ex.new n) (fun a w => ?_) L.kept L.there (fun a e m k => ?_)
  · by_cases z : a = p
    · subst z; rw [upd_same] at e; injection e with e; subst e; exact h
    · rw [upd_ne z] at e; exact L.ex a o e
  · have nap : a ≠ p := fun z => by
      subst z
      obtain ⟨o, e, no⟩ := (L.hidOw w).2
      rw [h] at e; injection e with e; exact no xs e.symm
    exact ⟨by rw [upd_ne nap]; exact (L.hidOw w).1, fun _ q => q⟩
  · have nap : a ≠ p := fun z => by
      subst z
      obtain ⟨o, e, no⟩ := m
      have := L.kept a o e k
      rw [h] at this; injection this with this; exact no xs this.symm
    rw [upd_ne nap]; exact L.hid a e m k
theorem get_set {ρ : Env} {i j : Nat} {t s : Slot} (e : (ρ.set i t)[j]? = some s) : (j = i ∧ s = t ∧ i < ρ.length) ∨ (j ≠ i ∧ ρ[j]? = some s) := by
  by_cases h : i = j
  · subst h
    by_cases l : i < ρ.length
    · rw [List.getElem?_set_self l] at e
      injection e with e; exact .inl ⟨rfl, e.symm, l⟩
    · rw [List.getElem?_eq_none (by rw [List.length_set]; omega)] at e; cases e
  · rw [List.getElem?_set_ne h] at e
    exact .inr ⟨fun z => h z.symm, e⟩
theorem Lv.slot (L : Lv K F ρ σ B H) {i : Nat} {t : Slot} (hn : owned t = false) (hf : ∀ d, t = .fz d → i < ρ.length → ∃ v, σ[i]? = some (some v) ∧ Fz K B v d) : Lv K F (ρ.set i t) σ B H := by
  refine L.few (by rw [List.length_set]; exact L.len) (fun j d e => ?_) (fun j s e w => ?_)
  · rcases get_set e with ⟨rfl, z, l⟩ | ⟨_, e⟩
    · exact hf d z.symm l
    · exact L.fz j d e
  · rcases get_set e with ⟨rfl, z, l⟩ | ⟨_, e⟩
    · rw [z, hn] at w; cases w
    · exact ⟨e, rfl⟩
theorem OwS.un {i : Nat} {a : Addr} (h : OwS K B H (ρ.set i .un) σ a) : ∃ (j : Nat) (s : Slot) (v : V) (S : List Addr), j ≠ i ∧ ρ[j]? = some s ∧ σ[j]? = some (some v) ∧ Ft K B H v s S ∧ a ∈ S := by
  obtain ⟨j, s, v, S, e, q, f, m⟩ := h
  rcases get_set e with ⟨rfl, z, l⟩ | ⟨n, e⟩
  · rw [z] at f; exact f.elim
  · exact ⟨j, s, v, S, n, e, q, f, m⟩
theorem Lv.take (L : Lv K F ρ σ B H) {i : Nat} {s : Slot} (e : ρ[i]? = some s) (w : owned s = true) : ∃ v S, σ[i]? = some (some v) ∧ Ft K B H v s S ∧ (∀ a ∈ S, F.A a ∨ F.H0 a = none) ∧ (∀ a ∈ S, ¬ OwS K B H (ρ.set i .un) σ a) ∧ Lv K F (ρ.set i .un) σ B H := by
  obtain ⟨v, S, q, f, g⟩ := L.own0 i s e w
  refine ⟨v, S, q, f, g, fun a m h => ?_, L.slot rfl (fun d z => nomatch z)⟩
  obtain ⟨j, s', v', S', n, e', q', f', m'⟩ := h.un
  exact n (L.ne0 j i s' s v' v S' S a e' e q' q f' f m' m)
theorem Lv.frz0 (L : Lv K F ρ σ B H) {i : Nat} {s : Slot} (e : ρ[i]? = some s) (w : owned s = true) : ∃ B' v, Ex B B' ∧ σ[i]? = some (some v) ∧ Fz K B' v s.dat ∧ Lv K F (ρ.set i (.fz s.dat)) σ B' H := by
  obtain ⟨v, S, q, f, g, no, L1⟩ := L.take e w
  have l : i < ρ.length := (List.getElem?_eq_some_iff.mp e).1
  have L2 := L1.freezeS g no
  have h2 : Fz K (frzB B H S) v s.dat := by
    have flt : ∀ {a : Addr} {d : D}, v = .ref a → Ow K B H a d → S = [a] → Fz K (frzB B H S) v d := by
      intro a d e1 w1 e2
      subst e1; subst e2
      obtain ⟨o, h1, h2⟩ := w1.fz
      refine h2.mono fun b u hb => ?_
      by_cases z : b = a
      · subst z; rw [upd_same] at hb; rw [frzB_in (by simp), h1]; exact hb
      · rw [upd_ne z] at hb; rw [frzB_out (by simpa using z)]; exact hb
    cases s with
    | un => cases w
    | fz _ => cases w
    | ow d => obtain ⟨a, e1, w1, e2⟩ := f; exact flt e1 w1 e2
    | io d => obtain ⟨a, e1, w1, e2⟩ := f; exact flt e1 w1 e2
    | dp m d => exact f.1.fz L.ex fun a m => m
  refine ⟨_, v, frzB_ex L.ex, q, h2, ?_⟩
  have L3 := L2.slot (i := i) (t := .fz s.dat) rfl (fun d' z _ => by injection z with z; subst z; exact ⟨_, q, h2⟩)
  rw [List.set_set] at L3
  exact L3
theorem Lv.frz (L : Lv K F ρ σ B H) {i : Nat} {d : D} (e : ρ[i]? = some (.ow d)) : ∃ B' v, Ex B B' ∧ σ[i]? = some (some v) ∧ Fz K B' v d ∧ Lv K F (ρ.set i (.fz d)) σ B' H := L.frz0 e rfl
theorem Lv.free (L : Lv K F ρ σ B H) {p : Addr} (h : H p = none) : F.H0 p = none := by
  cases q : F.H0 p with
  | none => rfl
  | some o => exact absurd h (L.there p (by rw [q]; simp))
theorem Lv.own (L : Lv K F ρ σ B H) {i : Nat} {t : Slot} {v : V} {S : List Addr} (e : σ[i]? = some (some v)) (w : Ft K B H v t S) (g : ∀ a ∈ S, F.A a ∨ F.H0 a = none) (no : ∀ a ∈ S, ¬ OwS K B H (ρ.set i .un) σ a)
    (hp : ∀ d, t = .io d → ∃ a, v = .ref a ∧ F.P[i]? = some (some a)) : Lv K F (ρ.set i t) σ B H := by
  have ht := w.owned
  have inj : ∀ {u : V}, σ[i]? = some (some u) → u = v := fun {u} q => by rw [e] at q; injection q with q; injection q with q; exact q.symm
  have non : ∀ {j : Nat} {s : Slot} {u : V} {T : List Addr} {a : Addr}, j ≠ i → ρ[j]? = some s → σ[j]? = some (some u) → Ft K B H u s T → a ∈ T → a ∈ S → False := fun {j s u T a} n e1 q f m m2 =>
    no a m2 ⟨j, s, u, T, by rw [List.getElem?_set_ne (Ne.symm n)]; exact e1, q, f, m⟩
  refine ⟨L.ex, L.kept, L.there, L.exB, L.hid, fun j d e1 => ?_, fun j s e1 w1 => ?_, fun j d e1 => ?_, fun j k s u b c S1 T1 a e1 e2 q1 q2 f1 f2 m1 m2 => ?_, by rw [List.length_set]; exact L.len⟩
  · rcases get_set e1 with ⟨rfl, z, l⟩ | ⟨n, e1⟩
    · rw [← z] at ht; cases ht
    · exact L.fz j d e1
  · rcases get_set e1 with ⟨rfl, z, l⟩ | ⟨n, e1⟩
    · rw [z]; exact ⟨v, S, e, w, g⟩
    · exact L.own0 j s e1 w1
  · rcases get_set e1 with ⟨rfl, z, l⟩ | ⟨n, e1⟩
    · obtain ⟨a, h1, h2⟩ := hp d z.symm
      exact ⟨a, h2, by rw [e, h1]⟩
    · exact L.io j d e1
  · rcases get_set e1 with ⟨rfl, z, l⟩ | ⟨n, e1⟩
    · rcases get_set e2 with ⟨rfl, z2, l⟩ | ⟨n2, e2⟩
      · rfl
      · rw [z, inj q1] at f1
        rw [f1.det w] at m1
        exact (non n2 e2 q2 f2 m2 m1).elim
    · rcases get_set e2 with ⟨z1, z, l⟩ | ⟨n2, e2⟩
      · rw [z1] at q2
        rw [z, inj q2] at f2
        rw [f2.det w] at m2
        exact (non n e1 q1 f1 m1 m2).elim
      · exact L.ne0 j k s u b c S1 T1 a e1 e2 q1 q2 f1 f2 m1 m2
theorem Lv.store (L : Lv K F ρ σ B H) {i : Nat} {v : V} (hn : owned t = false) (hf : ∀ d, t = .fz d → Fz K B v d) : Lv K F (ρ.set i t) (σ.set i (some v)) B H := by
  have sg : ∀ {j : Nat}, j ≠ i → (σ.set i (some v))[j]? = σ[j]? := fun {j} h => List.getElem?_set_ne (Ne.symm h)
  refine L.few (by rw [List.length_set, List.length_set]; exact L.len) (fun j d e1 => ?_) (fun j s e1 w1 => ?_)
  · rcases get_set e1 with ⟨rfl, z, l⟩ | ⟨n, e1⟩
    · exact ⟨v, List.getElem?_set_self (by rw [← L.len]; exact l), hf d z.symm⟩
    · rw [sg n]; exact L.fz j d e1
  · rcases get_set e1 with ⟨rfl, z, l⟩ | ⟨n, e1⟩
    · rw [z, hn] at w1; cases w1
    · exact ⟨e1, sg n⟩
theorem OwS.store {i : Nat} {v : V} {a : Addr} (h : OwS K B H (ρ.set i .un) (σ.set i (some v)) a) : OwS K B H ρ σ a := by
  obtain ⟨j, s, u, S, n, e, q, f, m⟩ := h.un
  rw [List.getElem?_set_ne (Ne.symm n)] at q
  exact ⟨j, s, u, S, e, q, f, m⟩
theorem Lv.hidW0 (L : Lv K F ρ σ B H) {p : Addr} {o : HO} (hB : B p = none) (g : F.A p ∨ F.H0 p = none) (no : ¬ OwS K B H ρ σ p) : Lv K F ρ σ B (upd H p o) := by
  refine L.move (L.ex.right hB) (Ex.refl _) (fun a w => ?_) (fun a u e n => ?_) (fun a e => upd_some (L.there a e)) L.hid
  · have nap : a ≠ p := fun z => no (z ▸ w)
    exact ⟨(L.hidOw w).1, fun u q => by rw [upd_ne nap]; exact q⟩
  · have na : a ≠ p := fun z => by
      subst z
      rcases g with g | g
      · exact n g
      · rw [g] at e; cases e
    rw [upd_ne na]; exact L.kept a u e n
theorem OwS.chg {p a : Addr} {o : HO} (L : Lv K F ρ σ B H) (no : ¬ OwS K B H ρ σ p) (h : OwS K B (upd H p o) ρ σ a) : OwS K B H ρ σ a := by
  obtain ⟨i, s, v, S, e, q, f, m⟩ := h
  obtain ⟨v', S', q', f', g⟩ := L.own0 i s e f.owned
  rw [q] at q'; injection q' with q'; injection q' with q'; subst q'
  have f2 : Ft K B (upd H p o) v s S' := f'.keep (Ex.refl _) (fun b hb => (f'.hid b hb).1) (fun b hb u e1 => by
    have nb : b ≠ p := fun z => no (z ▸ ⟨i, s, v, S', e, q, f', hb⟩)
    rw [upd_ne nb]; exact e1)
  rw [f.det f2] at m
  exact ⟨i, s, v, S', e, q, f', m⟩
theorem OwS.back {a : Addr} (L : Lv K F ρ σ B H) (eB : Ex B B') (k : ∀ a, OwS K B H ρ σ a → B' a = none ∧ ∀ o, H a = some o → H' a = some o) (h : OwS K B' H' ρ σ a) : OwS K B H ρ σ a := by
  obtain ⟨i, s, v, S, e, q, f, m⟩ := h
  obtain ⟨v', S', q', f', g⟩ := L.own0 i s e f.owned
  rw [q] at q'; injection q' with q'; injection q' with q'; subst q'
  have f2 : Ft K B' H' v s S' := f'.keep eB (fun b hb => (k b ⟨i, s, v, S', e, q, f', hb⟩).1) (fun b hb => (k b ⟨i, s, v, S', e, q, f', hb⟩).2)
  rw [f.det f2] at m
  exact ⟨i, s, v, S', e, q, f', m⟩
theorem Lv.write (L : Lv K F ρ σ B H) {i : Nat} {s t : Slot} {a : Addr} {o : HO} (e : ρ[i]? = some s) (ho : flat s = true) (q : σ[i]? = some (some (V.ref a))) (ht : (∃ d, s = .ow d ∧ ∃ d', t = .ow d') ∨ ∃ d, s = .io d ∧ ∃ d', t = .io d') (w : Ow K B (upd H a o) a t.dat) : Lv K F (ρ.set i t) σ B (upd H a o) := by
  obtain ⟨v, S, q', f, g, no, L1⟩ := L.take e (flat_owned ho)
  rw [q] at q'; injection q' with q'; injection q' with q'; subst q'
  obtain ⟨w0, rfl⟩ := f.one ho
  have na := no a (by simp)
  have L2 := L1.hidW0 (o := o) w0.hid (g a (by simp)) na
  have ft : flat t = true := by rcases ht with ⟨_, _, _, z⟩ | ⟨_, _, _, z⟩ <;> rw [z] <;> rfl
  have L3 := L2.own (i := i) (t := t) q (.mk w ft) (by simpa using g a (by simp)) (fun b hb h => by
    rw [List.set_set] at h
    rw [List.mem_singleton.mp hb] at h
    exact na (h.chg L1 na)) (fun d z => by
      rcases ht with ⟨_, _, _, y⟩ | ⟨d0, y, _, _⟩
      · rw [y] at z; cases z
      · obtain ⟨b, p1, p2⟩ := L.io i d0 (by rw [e, y])
        rw [q] at p2
        obtain rfl : a = b := by injection p2 with z; injection z with z; injection z
        exact ⟨a, rfl, p1⟩)
  rw [List.set_set] at L3
  exact L3
theorem Lv.nest (L : Lv K F ρ σ B H) : Lv K ⟨B, H, OwS K B H ρ σ, F.P⟩ ρ σ B H :=
  ⟨L.ex, fun _ _ h _ => h, fun _ h => h, Ex.refl _, fun _ h _ _ => h, L.fz, fun i s e w => by
    obtain ⟨v, S, e1, f, _⟩ := L.own0 i s e w
    exact ⟨v, S, e1, f, fun a m => .inl ⟨i, s, v, S, e, e1, f, m⟩⟩, L.io, L.ne0, L.len⟩
theorem Lv.back (L : Lv K F ρ σ B H) {ρ' : Env} {σ' : St} (M : Lv K ⟨B, H, OwS K B H ρ σ, F.P⟩ ρ' σ' B' H') : Lv K F ρ' σ' B' H' := by
  have own : ∀ a, OwS K B H ρ σ a → F.A a ∨ F.H0 a = none := fun a h => L.ofOw h
  refine ⟨M.ex, fun a o e n => ?_, fun a e => M.there a (L.there a e), L.exB.trans M.exB, fun a e n k => ?_, M.fz, fun i s e w => ?_, M.io, M.ne0, M.len⟩
  · refine M.kept a o (L.kept a o e n) fun z => ?_
    rcases own a z with q | q
    · exact n q
    · rw [q] at e; cases e
  · have h1 := L.hid a e n k
    refine M.hid a h1 (n.to fun o q => L.kept a o q k) fun z => ?_
    · rcases own a z with q | q
      · exact k q
      · exact n.ne q
  · obtain ⟨v, S, e1, f, g⟩ := M.own0 i s e w
    refine ⟨v, S, e1, f, fun a m => ?_⟩
    rcases g a m with g | g
    · exact own a g
    · by_cases k : F.A a
      · exact .inl k
      · refine .inr ?_
        cases q : F.H0 a with
        | none => rfl
        | some u => have z := L.kept a u q k; rw [show H a = none from g] at z; cases z
end
end Dt
namespace Dt
open PySem PySem.Spec PyProof.Rows L2
inductive Rs (α : Type) where
  | ok (a : α) (ρ : Env)
  | rz (c : Str) (ρ : Env)
  | fail
abbrev M (α : Type) : Type := Env → Rs α
def M.pure {α : Type} (a : α) : M α := fun ρ => .ok a ρ
def M.bind {α β : Type} (f : M α) (g : α → M β) : M β := fun ρ => match f ρ with
  | .ok a ρ' => g a ρ'
  | .rz c ρ' => .rz c ρ'
  | .fail => .fail
def M.fail {α : Type} : M α := fun _ => .fail
def M.opt {α : Type} (o : Option α) : M α := fun ρ => match o with
  | some a => .ok a ρ
  | none => .fail
def M.raise {α : Type} (c : Str) : M α := fun ρ => .rz c ρ
inductive Fl where
  | nx
  | bk
  | ct
  | rt (d : D) (o : Ob)
def cv (X : Cx) (c : Str) : Value := (X.mg c).getD .none
structure We (X : Cx) (e : Expr) (σ : St) (H : Hp) (Q : VK) : Prop where
  run : ∀ (pins : List (Addr × Obj)) (s : Shared), Inv X pins σ H s → wpAny (model X.prog X.w) X.A (eval e X.env) (EP X pins σ Q) X.xe s
def we (X : Cx) (e : Expr) : TE := We X e
structure Wt (X : Cx) (e : Expr) (σ : St) (H : Hp) (Q : Bool → Hp → Prop) : Prop where
  run : ∀ (pins : List (Addr × Obj)) (s : Shared), Inv X pins σ H s → wpAny (model X.prog X.w) X.A (isTrue e X.env (eval e X.env)) (TP X pins σ Q) X.xe s
def wt (X : Cx) (e : Expr) : TT := Wt X e
structure Wa (X : Cx) (es : List Expr) (σ : St) (H : Hp) (Q : List V → Hp → Prop) : Prop where
  run : ∀ (pos : Pos) (pins : List (Addr × Obj)) (s : Shared), Inv X pins σ H s → wpAny (model X.prog X.w) X.A (spliced (backTo pos (starEach es X.env))) (AP X pins σ Q) X.xe s
def wa (X : Cx) (es : List Expr) : TA := Wa X es
structure Ws (X : Cx) (st : Stmt) (D : Ends) (σ : St) (H : Hp) : Prop where
  run : ∀ (pins : List (Addr × Obj)) (s : Shared), Inv X pins σ H s → wpAny (model X.prog X.w) X.A (exec st X.env) (SP X pins D) X.xe s
def ws (X : Cx) (st : Stmt) : TS := Ws X st
structure Wss (X : Cx) (st : List Stmt) (D : Ends) (σ : St) (H : Hp) : Prop where
  run : ∀ (pins : List (Addr × Obj)) (s : Shared), Inv X pins σ H s → wpAny (model X.prog X.w) X.A (execs st X.env) (SP X pins D) X.xe s
def wss (X : Cx) (st : List Stmt) : TS := Wss X st
section
variable {X : Cx} {e : Expr} {es : List Expr} {st : Stmt} {sts : List Stmt} {σ : St} {H : Hp}
theorem pe_we : PE X e (we X e) := ⟨fun pins s _ _ _ I h => We.run h pins s I⟩
theorem pt_wt : PT X e (wt X e) := ⟨fun pins s _ _ _ I h => Wt.run h pins s I⟩
theorem pa_wa : PA X es (wa X es) := ⟨fun pos pins s _ _ _ I h => Wa.run h pos pins s I⟩
theorem ps_ws : PS X st (ws X st) := ⟨fun pins s _ _ _ I h => Ws.run h pins s I⟩
theorem pss_wss : PSs X sts (wss X sts) := ⟨fun pins s _ _ _ I h => Wss.run h pins s I⟩
theorem PE.we {t : TE} {Q : VK} (h : PE X e t) (q : t σ H Q) : we X e σ H Q := We.mk fun pins s I => h.run pins s σ H Q I q
theorem PT.wt {t : TT} {Q : Bool → Hp → Prop} (h : PT X e t) (q : t σ H Q) : wt X e σ H Q := Wt.mk fun pins s I => h.run pins s σ H Q I q
theorem PA.wa {t : TA} {Q : List V → Hp → Prop} (h : PA X es t) (q : t σ H Q) : wa X es σ H Q := Wa.mk fun pos pins s I => h.run pos pins s σ H Q I q
theorem PS.ws {t : TS} {N : Ends} (h : PS X st t) (q : t N σ H) : ws X st N σ H := Ws.mk fun pins s I => h.run pins s σ H N I q
theorem PSs.wss {t : TS} {N : Ends} (h : PSs X sts t) (q : t N σ H) : wss X sts N σ H := Wss.mk fun pins s I => h.run pins s σ H N I q
end
def Post {α : Type} (X : Cx) (W : WX) (F : Fr) (σ : St) (B : Hp) (r : Rs α) (G : α → Env → Hp → Hp → Prop) : Prop :=
  match r with
  | .ok a ρ' => ∀ B' H', Ex B B' → Lv X.K F ρ' σ B' H' → G a ρ' B' H'
  | .rz c ρ' => ∀ B' H', Ex B B' → Lv X.K F ρ' σ B' H' → W (cv X c) none σ H'
  | .fail => False
section
variable {X : Cx} {W : WX} {F : Fr} {σ : St} {B B1 : Hp} {α β : Type} {ρ : Env}
theorem Post.weak {r : Rs α} {G : α → Env → Hp → Hp → Prop} (h : Post X W F σ B r G) (e : Ex B B1) : Post X W F σ B1 r G := by
  cases r with
  | ok a ρ' => exact fun B' H' e' L => h B' H' (e.trans e') L
  | rz c ρ' => exact fun B' H' e' L => h B' H' (e.trans e') L
  | fail => exact h
theorem Post.imp {r : Rs α} {G G' : α → Env → Hp → Hp → Prop} (h : Post X W F σ B r G) (k : ∀ a ρ' B' H', Ex B B' → Lv X.K F ρ' σ B' H' → G a ρ' B' H' → G' a ρ' B' H') : Post X W F σ B r G' := by
  cases r with
  | ok a ρ' => exact fun B' H' e L => k a ρ' B' H' e L (h B' H' e L)
  | rz c ρ' => exact h
  | fail => exact h
theorem Post.bind {f : M α} {g : α → M β} {G : β → Env → Hp → Hp → Prop} (h : Post X W F σ B (M.bind f g ρ) G) : Post X W F σ B (f ρ) (fun a ρ1 B1 _ => Post X W F σ B1 (g a ρ1) G) := by
  unfold M.bind at h
  cases q : f ρ with
  | ok a ρ' => rw [q] at h; exact fun B' H' e L => Post.weak h e
  | rz c ρ' => rw [q] at h; exact h
  | fail => rw [q] at h; exact h
theorem Post.opt {o : Option α} {G : α → Env → Hp → Hp → Prop} (h : Post X W F σ B (M.opt o ρ) G) : ∃ a, o = some a ∧ ∀ B' H', Ex B B' → Lv X.K F ρ σ B' H' → G a ρ B' H' := by
  cases o with
  | none => exact h.elim
  | some a => exact ⟨a, rfl, h⟩
end
def EV (X : Cx) (W : WX) (e : Expr) (f : M D) : Prop := ∀ (F : Fr) (ρ : Env) (σ : St) (B H : Hp) (Q : VK), Lv X.K F ρ σ B H →
  Post X W F σ B (f ρ) (fun d _ B' H' => ∀ v, Fz X.K B' v d → Q v H') → we X e σ H Q
def ET (X : Cx) (W : WX) (e : Expr) (f : M Bool) : Prop := ∀ (F : Fr) (ρ : Env) (σ : St) (B H : Hp) (Q : Bool → Hp → Prop), Lv X.K F ρ σ B H →
  Post X W F σ B (f ρ) (fun b _ _ H' => Q b H') → wt X e σ H Q
def EA (X : Cx) (W : WX) (es : List Expr) (f : M (List D)) : Prop := ∀ (F : Fr) (ρ : Env) (σ : St) (B H : Hp) (Q : List V → Hp → Prop), Lv X.K F ρ σ B H →
  Post X W F σ B (f ρ) (fun ds _ B' H' => ∀ vs, Fzs X.K B' vs ds → Q vs H') → wa X es σ H Q
def VO (K : PySem.W.Frag) (F : Fr) (ρ : Env) (σ : St) (B H : Hp) (v : V) (d : D) : Ob → Prop
  | .tt => ∃ a, v = .ref a ∧ Ow K B H a d ∧ (F.A a ∨ F.H0 a = none) ∧ ¬ OwS K B H ρ σ a
  | .ff => Fz K B v d
  | .dp m => ∃ S, Tr K B H m v d S ∧ S.Nodup ∧ ∀ a ∈ S, (F.A a ∨ F.H0 a = none) ∧ ¬ OwS K B H ρ σ a
  | .al => ∃ (j : Nat) (a : Addr), F.P[j]? = some (some a) ∧ v = .ref a
def EO (X : Cx) (W : WX) (e : Expr) (f : M (D × Ob)) : Prop := ∀ (F : Fr) (ρ : Env) (σ : St) (B H : Hp) (Q : VK), Lv X.K F ρ σ B H →
  Post X W F σ B (f ρ) (fun p ρ' B' H' => ∀ v, VO X.K F ρ' σ B' H' v p.1 p.2 → Q v H') → we X e σ H Q
def PostS (X : Cx) (W : WX) (F : Fr) (B : Hp) (r : Rs Fl) (N : Ends) : Prop :=
  match r with
  | .ok .nx ρ' => ∀ σ' B' H', Ex B B' → Lv X.K F ρ' σ' B' H' → N.nx σ' H'
  | .ok .bk ρ' => ∀ σ' B' H', Ex B B' → Lv X.K F ρ' σ' B' H' → N.bk σ' H'
  | .ok .ct ρ' => ∀ σ' B' H', Ex B B' → Lv X.K F ρ' σ' B' H' → N.ct σ' H'
  | .ok (.rt d o) ρ' => ∀ v σ' B' H', Ex B B' → Lv X.K F ρ' σ' B' H' → VO X.K F ρ' σ' B' H' v d o → N.rt v H'
  | .rz c ρ' => ∀ σ' B' H', Ex B B' → Lv X.K F ρ' σ' B' H' → W (cv X c) none σ' H'
  | .fail => False
def SV (X : Cx) (W : WX) (st : Stmt) (f : M Fl) : Prop := ∀ (F : Fr) (ρ : Env) (σ : St) (B H : Hp) (N : Ends), Lv X.K F ρ σ B H → PostS X W F B (f ρ) N → ws X st N σ H
def SVs (X : Cx) (W : WX) (sts : List Stmt) (f : M Fl) : Prop := ∀ (F : Fr) (ρ : Env) (σ : St) (B H : Hp) (N : Ends), Lv X.K F ρ σ B H → PostS X W F B (f ρ) N → wss X sts N σ H
theorem PostS.weak {X : Cx} {W : WX} {F : Fr} {B B1 : Hp} {r : Rs Fl} {N : Ends} (h : PostS X W F B r N) (e : Ex B B1) : PostS X W F B1 r N := by
  cases r with
  | ok a ρ' =>
    cases a with
    | nx => exact fun σ' B' H' e' L => h σ' B' H' (e.trans e') L
    | bk => exact fun σ' B' H' e' L => h σ' B' H' (e.trans e') L
    | ct => exact fun σ' B' H' e' L => h σ' B' H' (e.trans e') L
    | rt d o => exact fun v σ' B' H' e' L => h v σ' B' H' (e.trans e') L
  | rz c ρ' => exact fun σ' B' H' e' L => h σ' B' H' (e.trans e') L
  | fail => exact h
theorem PostS.bind {X : Cx} {W : WX} {F : Fr} {B : Hp} {σ : St} {α : Type} {ρ : Env} {f : M α} {g : α → M Fl} {N : Ends} (h : PostS X W F B (M.bind f g ρ) N) : Post X W F σ B (f ρ) (fun a ρ1 B1 _ => PostS X W F B1 (g a ρ1) N) := by
  unfold M.bind at h
  cases q : f ρ with
  | ok a ρ' => rw [q] at h; exact fun B' H' e L => PostS.weak h e
  | rz c ρ' => rw [q] at h; exact fun B' H' e L => h σ B' H' e L
  | fail => rw [q] at h; exact h
def Grow (K : PySem.W.Frag) (B H : Hp) (d : D) (Q : VK) : Prop := (∀ v, Fz K B v d → Q v H) ∧ ∀ p o v, H p = none → Fz K (upd B p o) v d → Q v (upd H p o)
theorem Lv.grow {K : PySem.W.Frag} {F : Fr} {ρ : Env} {σ : St} {B H : Hp} {d : D} {Q : VK} (L : Lv K F ρ σ B H) (h : ∀ B' H', Ex B B' → Lv K F ρ σ B' H' → ∀ v, Fz K B' v d → Q v H') : Grow K B H d Q :=
  ⟨fun v f => h B H (Ex.refl _) L v f, fun p o v n f => h _ _ (Ex.new (L.ex.nn n)) (L.alloc n) v f⟩
section
variable {X : Cx} {W : WX} {e a b c : Expr} {pos : Pos}
def mVar (i : Nat) : M D := fun ρ => match ρ[i]? with
  | some (.fz d) => .ok d ρ
  | some (.ow d) => .ok d (ρ.set i (.fz d))
  | some (.dp _ d) => .ok d (ρ.set i (.fz d))
  | _ => .fail
theorem ev_var (i : Nat) {x : Str} (hN : X.N[i]? = some x := by rfl) (hv : Vis X.env.scope x := by first | exact Or.inl rfl | exact Or.inr (Or.inl rfl) | exact Or.inr (Or.inr rfl)) (hd : (x == ("__debug__" : Str)) = false := by decide)
    (hcd : (x == ("__classdict__" : Str)) = false := by decide) : EV X W (.Name x pos) (mVar i) := by
  intro F ρ σ B H Q L P
  refine PE.we (pe_var hN hv hd hcd) ?_
  unfold mVar at P
  split at P
  · rename_i d h
    obtain ⟨v, e1, f⟩ := L.fz i d h
    exact ⟨v, e1, P B H (Ex.refl _) L v f⟩
  · rename_i d h
    obtain ⟨B', v, e1, e2, f, L'⟩ := L.frz h
    exact ⟨v, e2, P B' H e1 L' v f⟩
  · rename_i m d h
    obtain ⟨B', v, e1, e2, f, L'⟩ := L.frz0 h rfl
    exact ⟨v, e2, P B' H e1 L' v f⟩
  · exact P.elim
theorem ev_c {d : D} {v : V} (h : PE X e (tC v)) (hf : ∀ B, Fz X.K B v d) : EV X W e (M.pure d) := by
  intro F ρ σ B H Q L P
  exact PE.we h (P B H (Ex.refl _) L v (hf B))
theorem ev_int {i : Int} {j : Nat} : EV X W (.Constant (.int i) j pos) (M.pure (.int i)) := ev_c pe_int fun _ => .int i
theorem ev_str {x : Str} {j : Nat} : EV X W (.Constant (.str x) j pos) (M.pure (.str x)) := ev_c pe_str fun _ => .str x
theorem ev_bl {k : Bool} {j : Nat} : EV X W (.Constant (.bool k) j pos) (M.pure (.bl k)) := ev_c pe_bl fun _ => .bl k
theorem ev_glob {x : Str} {v : V} {u : Value} {d : D} (hg : Gl X x) (hm : X.mg x = some u) (r : RelV v u) (hf : ∀ B, Fz X.K B v d) (hd : (x == ("__debug__" : Str)) = false := by decide) : EV X W (.Name x pos) (M.pure d) := ev_c (pe_glob hg hm r hd) hf
def mBin (g : D → D → Option D) (f1 f2 : M D) : M D := M.bind f1 fun x => M.bind f2 fun y => M.opt (g x y)
def OpD (K : PySem.W.Frag) (r : R2) (g : D → D → Option D) : Prop := ∀ (x y : V) (dx dy d : D) (B H : Hp) (Q : VK), Ex B H → Fz K B x dx → Fz K B y dy → g dx dy = some d → Grow K B H d Q → r x y H Q
theorem ev_two {r : R2} {g : D → D → Option D} {f1 f2 : M D} (h : PE X e (tOp r (we X a) (we X b))) (hr : OpD X.K r g) (ha : EV X W a f1) (hb : EV X W b f2) : EV X W e (mBin g f1 f2) := by
  intro F ρ σ B H Q L P
  refine PE.we h ?_
  refine ha F ρ σ B H _ L ((Post.bind P).imp fun dx ρ1 B1 H1 e1 L1 P1 x fx => ?_)
  refine hb F ρ1 σ B1 H1 _ L1 ((Post.bind P1).imp fun dy ρ2 B2 H2 e2 L2 P2 y fy => ?_)
  obtain ⟨d, hd, k⟩ := P2.opt
  exact hr x y dx dy d B2 H2 Q L2.ex (fx.mono e2) fy hd (L2.grow k)
theorem ev_op {op : Operator} {r : R2} {g : D → D → Option D} {f1 f2 : M D} (ho : OpR X (binaryOp op) r) (hr : OpD X.K r g) (ha : EV X W a f1) (hb : EV X W b f2) : EV X W (.BinOp a op b pos) (mBin g f1 f2) :=
  ev_two (pe_op ho pe_we pe_we) hr ha hb
theorem ev_cmp {op : CmpOp} {r : R2} {g : D → D → Option D} {f1 f2 : M D} (ho : OpR X (compareOp op) r) (hr : OpD X.K r g) (ha : EV X W a f1) (hb : EV X W b f2) (hm : behindInMarks op b = false := by first | exact nomark _ | rfl) : EV X W (.Compare a [op] [b] pos) (mBin g f1 f2) :=
  ev_two (pe_cmpR ho pe_we pe_we hm) hr ha hb
theorem ev_ix {r : R2} {g : D → D → Option D} {f1 f2 : M D} (ho : IxR X r) (hr : OpD X.K r g) (ha : EV X W a f1) (hb : EV X W b f2) (hs : PlainIx b := by exact fun _ _ => rfl) : EV X W (.Subscript a b pos) (mBin g f1 f2) :=
  ev_two (pe_ix ho pe_we pe_we hs) hr ha hb
def mUn (g : D → Option D) (f1 : M D) : M D := M.bind f1 fun x => M.opt (g x)
def UnD (K : PySem.W.Frag) (r : V → Hp → VK → Prop) (g : D → Option D) : Prop := ∀ (x : V) (dx d : D) (B H : Hp) (Q : VK), Ex B H → Fz K B x dx → g dx = some d → Grow K B H d Q → r x H Q
theorem ev_un {op : UnaryOp} {r : V → Hp → VK → Prop} {g : D → Option D} {f1 : M D} (ho : UnR X (unaryOp op) r) (hr : UnD X.K r g) (ha : EV X W a f1) : EV X W (.UnaryOp op a pos) (mUn g f1) := by
  intro F ρ σ B H Q L P
  refine PE.we (pe_un ho pe_we) ?_
  refine ha F ρ σ B H _ L ((Post.bind P).imp fun dx ρ1 B1 H1 e1 L1 P1 x fx => ?_)
  obtain ⟨d, hd, k⟩ := P1.opt
  exact hr x dx d B1 H1 Q L1.ex fx hd (L1.grow k)
def mNil : M (List D) := M.pure []
def mCons (f : M D) (g : M (List D)) : M (List D) := M.bind f fun x => M.bind g fun xs => M.pure (x :: xs)
theorem ea_nil : EA X W [] mNil := fun F ρ σ B H Q L P => PA.wa pa_nil (P B H (Ex.refl _) L [] .nil)
def unStar : Expr → Bool
  | .Starred _ _ => false
  | _ => true
theorem star_un {e : Expr} {es : List Expr} {env : PySem.Env} (h : unStar e = true) : starEach (e :: es) env = (false, eval e env) :: starEach es env := by
  cases e <;> first | rfl | cases h
theorem ea_cons {es : List Expr} {f : M D} {g : M (List D)} (ha : EV X W e f) (hr : EA X W es g) (hs : starEach (e :: es) X.env = (false, eval e X.env) :: starEach es X.env := by exact star_un rfl) : EA X W (e :: es) (mCons f g) := by
  intro F ρ σ B H Q L P
  refine PA.wa (pa_cons pe_we pa_wa hs) ?_
  refine ha F ρ σ B H _ L ((Post.bind P).imp fun dx ρ1 B1 H1 e1 L1 P1 x fx => ?_)
  refine hr F ρ1 σ B1 H1 _ L1 ((Post.bind P1).imp fun ds ρ2 B2 H2 e2 L2 P2 xs fs => ?_)
  exact P2 B2 H2 (Ex.refl _) L2 _ (.cons (fx.mono e2) fs)
def mCall (g : List D → Option D) (f : M (List D)) : M D := M.bind f fun xs => M.opt (g xs)
def CallD (K : PySem.W.Frag) (r : List V → Hp → VK → Prop) (g : List D → Option D) : Prop := ∀ (xs : List V) (ds : List D) (d : D) (B H : Hp) (Q : VK), Ex B H → Fzs K B xs ds → g ds = some d → Grow K B H d Q → r xs H Q
theorem ev_callG {es : List Expr} {r : List V → Hp → VK → Prop} {g : List D → Option D} {f : M (List D)} (h : PE X e (tCB r (wa X es))) (hr : CallD X.K r g) (ha : EA X W es f) : EV X W e (mCall g f) := by
  intro F ρ σ B H Q L P
  refine PE.we h ?_
  refine ha F ρ σ B H _ L ((Post.bind P).imp fun ds ρ1 B1 H1 e1 L1 P1 xs fs => ?_)
  obtain ⟨d, hd, k⟩ := P1.opt
  exact hr xs ds d B1 H1 Q L1.ex fs hd (L1.grow k)
theorem ev_callB {x : Str} {id : String} {es : List Expr} {p : Pos} {r : List V → Hp → VK → Prop} {g : List D → Option D} {f : M (List D)} (hc : CallR X (.builtin id) r) (hr : CallD X.K r g) (hg : Gl X x) (hm : X.mg x = none) (hv : bootBuiltins x = some (.builtin id))
    (ha : EA X W (e :: es) f) (hn : x ≠ "__name__" := by decide) (hdb : (x == ("__debug__" : Str)) = false := by decide)
    (he : starEach (e :: es) X.env = (false, eval e X.env) :: starEach es X.env := by exact star_un rfl) (hpl : (backTo pos (starEach es X.env)).any (·.1) = false := by rfl) : EV X W (.Call (.Name x p) (e :: es) [] pos) (mCall g f) :=
  ev_callG (pe_callB hc hg hm hv pa_wa hn hdb he hpl) hr ha
theorem ev_callTy {x : Str} {T : String} {es : List Expr} {p : Pos} {r : List V → Hp → VK → Prop} {g : List D → Option D} {f : M (List D)} (hc : CallR X (.type T) r) (hr : CallD X.K r g) (hg : Gl X x) (hm : X.mg x = none) (hv : bootBuiltins x = some (.type T))
    (ha : EA X W (e :: es) f) (hn : x ≠ "__name__" := by decide) (hdb : (x == ("__debug__" : Str)) = false := by decide)
    (he : starEach (e :: es) X.env = (false, eval e X.env) :: starEach es X.env := by exact star_un rfl) (hpl : (backTo pos (starEach es X.env)).any (·.1) = false := by rfl) : EV X W (.Call (.Name x p) (e :: es) [] pos) (mCall g f) :=
  ev_callG (pe_callTy hc hg hm hv pa_wa hn hdb he hpl) hr ha
def mTup (f : M (List D)) : M D := M.bind f fun xs => M.opt (if xs.length ≤ 10000 then some (.tup xs) else none)
theorem len_line {n : Nat} (h : n ≤ 100000) : n ≤ sizeLine := Nat.le_trans h (by decide)
theorem ev_tup {es : List Expr} {k : Nat} {f : M (List D)} (ha : EA X W es f) : EV X W (.Tuple es k pos) (mTup f) := by
  intro F ρ σ B H Q L P
  refine PE.we (pe_tup pa_wa) ?_
  refine ha F ρ σ B H _ L ((Post.bind P).imp fun ds ρ1 B1 H1 e1 L1 P1 xs fs => ?_)
  obtain ⟨d, hd, k⟩ := P1.opt
  split at hd
  · injection hd with hd; subst hd
    refine ⟨len_line (by rw [fs.len]; omega), fun p hp => (L1.grow k).2 p _ _ hp (.tup (.inl (.inl upd_same)) (fs.mono (Ex.new (L1.ex.nn hp))))⟩
  · cases hd
def Ob.ok : Ob → Bool
  | .al => false
  | _ => true
def mFz (f : M (D × Ob)) : M D := M.bind f fun p => M.opt (if p.2.ok = true then some p.1 else none)
theorem Lv.vfz {K : PySem.W.Frag} {F : Fr} {ρ : Env} {σ : St} {B H : Hp} {v : V} {d : D} {o : Ob} (L : Lv K F ρ σ B H) (h : VO K F ρ σ B H v d o) (ok : o.ok = true) : ∃ B', Ex B B' ∧ Lv K F ρ σ B' H ∧ Fz K B' v d := by
  cases o with
  | ff => exact ⟨B, Ex.refl _, L, h⟩
  | tt =>
    obtain ⟨a, rfl, w, n, no⟩ := h
    obtain ⟨o, h1, h2⟩ := w.fz
    exact ⟨_, Ex.new w.hid, L.freeze h1 w.hid n no, h2⟩
  | dp m =>
    obtain ⟨S, t, nd, g⟩ := h
    exact ⟨_, frzB_ex L.ex, L.freezeS (fun a m => (g a m).1) (fun a m => (g a m).2), t.fz L.ex fun a m => m⟩
  | al => cases ok
theorem ev_of {f : M (D × Ob)} (h : EO X W e f) : EV X W e (mFz f) := by
  intro F ρ σ B H Q L P
  refine h F ρ σ B H Q L ((Post.bind P).imp fun p ρ1 B1 H1 e1 L1 P1 v w => ?_)
  obtain ⟨d, hd, k⟩ := P1.opt
  split at hd
  · rename_i ok
    injection hd with hd; subst hd
    obtain ⟨B2, e2, L2, f2⟩ := L1.vfz w ok
    exact k B2 H1 e2 L2 v f2
  · cases hd
def mOf (f : M D) : M (D × Ob) := M.bind f fun d => M.pure (d, .ff)
theorem eo_of {f : M D} (h : EV X W e f) : EO X W e (mOf f) := by
  intro F ρ σ B H Q L P
  exact h F ρ σ B H Q L ((Post.bind P).imp fun d ρ1 B1 H1 e1 L1 P1 v w => P1 B1 H1 (Ex.refl _) L1 v w)
def mMove (i : Nat) : M (D × Ob) := fun ρ => match ρ[i]? with
  | some (.fz d) => .ok (d, .ff) ρ
  | some (.ow d) => .ok (d, .tt) (ρ.set i .un)
  | some (.dp m d) => .ok (d, .dp m) (ρ.set i .un)
  | _ => .fail
def mLst (f : M (List D)) : M (D × Ob) := M.bind f fun xs => M.opt (if xs.length ≤ 10000 then some (.lst xs, .tt) else none)
theorem Lv.newL {K : PySem.W.Frag} {F : Fr} {ρ : Env} {σ : St} {B H : Hp} {p : Addr} {xs : List V} {ds : List D} (L : Lv K F ρ σ B H) (hp : H p = none) (fs : Fzs K B xs ds) : Lv K F ρ σ B (upd H p (.lst xs)) ∧ VO K F ρ σ B (upd H p (.lst xs)) (.ref p) (.lst ds) .tt :=
  ⟨L.allocO hp, p, rfl, ⟨L.ex.nn hp, xs, upd_same, fs⟩, .inr (L.free hp), fun h => (L.hidOw (h.chg L fun z => (L.hidOw z).2.ne hp)).2.ne hp⟩
theorem eo_lst {es : List Expr} {f : M (List D)} (ha : EA X W es f) : EO X W (.List es pos) (mLst f) := by
  intro F ρ σ B H Q L P
  refine PE.we (pe_lst pa_wa) ?_
  refine ha F ρ σ B H _ L ((Post.bind P).imp fun ds ρ1 B1 H1 e1 L1 P1 xs fs => ?_)
  obtain ⟨d, hd, k⟩ := P1.opt
  split at hd
  · injection hd with hd; subst hd
    refine ⟨len_line (by rw [fs.len]; omega), fun p hp => ?_⟩
    obtain ⟨L2, v2⟩ := L1.newL hp fs
    exact k B1 _ (Ex.refl _) L2 _ v2
  · cases hd
theorem eo_move (i : Nat) {x : Str} (hN : X.N[i]? = some x := by rfl) (hv : Vis X.env.scope x := by first | exact Or.inl rfl | exact Or.inr (Or.inl rfl) | exact Or.inr (Or.inr rfl)) (hd : (x == ("__debug__" : Str)) = false := by decide)
    (hcd : (x == ("__classdict__" : Str)) = false := by decide) : EO X W (.Name x pos) (mMove i) := by
  intro F ρ σ B H Q L P
  refine PE.we (pe_var hN hv hd hcd) ?_
  unfold mMove at P
  split at P
  · rename_i d h
    obtain ⟨v, e1, f⟩ := L.fz i d h
    exact ⟨v, e1, P B H (Ex.refl _) L v f⟩
  · rename_i d h
    obtain ⟨v, S, e1, f, g, no, L1⟩ := L.take h rfl
    obtain ⟨a, rfl, w, rfl⟩ := f
    exact ⟨_, e1, P B H (Ex.refl _) L1 _ ⟨a, rfl, w, g a (by simp), no a (by simp)⟩⟩
  · rename_i m d h
    obtain ⟨v, S, e1, f, g, no, L1⟩ := L.take h rfl
    exact ⟨_, e1, P B H (Ex.refl _) L1 _ ⟨S, f.1, f.2, fun a m => ⟨g a m, no a m⟩⟩⟩
  · exact P.elim
end
end Dt
namespace Dt
open PySem PySem.Spec PyProof.Rows L2
section
variable {X : Cx} {W : WX} {e a b c : Expr} {pos : Pos}
def asBl : D → Option Bool
  | .bl k => some k
  | _ => none
theorem Fz.bl_inv {K : PySem.W.Frag} {B : Hp} {v : V} {d : D} {k : Bool} (h : Fz K B v d) (e : asBl d = some k) : v = .bl k := by
  cases h with
  | bl b => injection e with e; rw [e]
  | _ => cases e
def mTest (f : M D) : M Bool := M.bind f fun d => M.opt (asBl d)
theorem et_val {f : M D} (he : EV X W e f) (hw : ∀ whole, isTrue e X.env whole = (do let v ← whole; standAt e.pos; holding [v] (truthy v)) := by intro _; rfl) : ET X W e (mTest f) := by
  intro F ρ σ B H Q L P
  refine PT.wt (pt_val pe_we hw) ?_
  refine he F ρ σ B H _ L ((Post.bind P).imp fun d ρ1 B1 H1 e1 L1 P1 v fv => ?_)
  obtain ⟨k, hk, q⟩ := P1.opt
  exact ⟨k, fv.bl_inv hk, q B1 H1 (Ex.refl _) L1⟩
theorem et_cmp {op : CmpOp} {r : R2} {g : D → D → Option D} {f1 f2 : M D} (ho : OpR X (compareOp op) r) (hr : OpD X.K r g) (ha : EV X W a f1) (hb : EV X W b f2) (hm : behindInMarks op b = false := by first | exact nomark _ | rfl) : ET X W (.Compare a [op] [b] pos) (mTest (mBin g f1 f2)) := by
  intro F ρ σ B H Q L P
  refine PT.wt (pt_cmpR ho pe_we pe_we hm) ?_
  have P0 := Post.bind P
  refine ha F ρ σ B H _ L ((Post.bind P0).imp fun dx ρ1 B1 H1 e1 L1 P1 x fx => ?_)
  refine hb F ρ1 σ B1 H1 _ L1 ((Post.bind P1).imp fun dy ρ2 B2 H2 e2 L2 P2 y fy => ?_)
  obtain ⟨d, hd, k⟩ := P2.opt
  refine hr x y dx dy d B2 H2 _ L2.ex (fx.mono e2) fy hd (L2.grow fun B' H' e' L' v fv => ?_)
  obtain ⟨kk, hk, q⟩ := (k B' H' e' L').opt
  exact ⟨kk, fv.bl_inv hk, q B' H' (Ex.refl _) L'⟩
structure Ww (X : Cx) (e : Expr) (σ : St) (H : Hp) (Q : Bool → Hp → Prop) : Prop where
  run : ∀ (whole : Sem Value) (pins : List (Addr × Obj)) (s : Shared), Inv X pins σ H s → wpAny (model X.prog X.w) X.A (isTrue e X.env whole) (TP X pins σ Q) X.xe s
def ww (X : Cx) (e : Expr) : TT := Ww X e
theorem pw_ww : PW X e (ww X e) := ⟨fun whole pins s _ _ _ I h => Ww.run h whole pins s I⟩
theorem PW.ww {t : TT} {Q : Bool → Hp → Prop} {σ : St} {H : Hp} (h : PW X e t) (q : t σ H Q) : ww X e σ H Q := Ww.mk fun whole pins s I => h.run whole pins s σ H Q I q
def EW (X : Cx) (W : WX) (e : Expr) (f : M Bool) : Prop := ∀ (F : Fr) (ρ : Env) (σ : St) (B H : Hp) (Q : Bool → Hp → Prop), Lv X.K F ρ σ B H →
  Post X W F σ B (f ρ) (fun b _ _ H' => Q b H') → ww X e σ H Q
theorem et_w {f : M Bool} (h : EW X W e f) : ET X W e f := fun F ρ σ B H Q L P => PT.wt (PW.pt pw_ww) (h F ρ σ B H Q L P)
def mAnd (f g : M Bool) : M Bool := M.bind f fun k => match k with
  | true => g
  | false => M.pure false
def mOr (f g : M Bool) : M Bool := M.bind f fun k => match k with
  | true => M.pure true
  | false => g
def mNot (f : M Bool) : M Bool := M.bind f fun k => M.pure (!k)
theorem ew_and1 {f : M Bool} (ha : ET X W a f) : EW X W (.BoolOp .And [a] pos) f := fun F ρ σ B H Q L P => PW.ww (pw_and1 pt_wt) (ha F ρ σ B H Q L P)
theorem ew_or1 {f : M Bool} (ha : ET X W a f) : EW X W (.BoolOp .Or [a] pos) f := fun F ρ σ B H Q L P => PW.ww (pw_or1 pt_wt) (ha F ρ σ B H Q L P)
theorem ew_and {rest : List Expr} {f g : M Bool} (ha : ET X W a f) (hb : EW X W (.BoolOp .And (b :: rest) pos) g) : EW X W (.BoolOp .And (a :: b :: rest) pos) (mAnd f g) := by
  intro F ρ σ B H Q L P
  refine PW.ww (pw_and pt_wt pw_ww) ?_
  refine ha F ρ σ B H _ L ((Post.bind P).imp fun k ρ1 B1 H1 e1 L1 P1 => ?_)
  cases k with
  | true => rw [if_pos rfl]; exact hb F ρ1 σ B1 H1 Q L1 P1
  | false => rw [if_neg Bool.false_ne_true]; exact P1 B1 H1 (Ex.refl _) L1
theorem ew_or {rest : List Expr} {f g : M Bool} (ha : ET X W a f) (hb : EW X W (.BoolOp .Or (b :: rest) pos) g) : EW X W (.BoolOp .Or (a :: b :: rest) pos) (mOr f g) := by
  intro F ρ σ B H Q L P
  refine PW.ww (pw_or pt_wt pw_ww) ?_
  refine ha F ρ σ B H _ L ((Post.bind P).imp fun k ρ1 B1 H1 e1 L1 P1 => ?_)
  cases k with
  | true => rw [if_pos rfl]; exact P1 B1 H1 (Ex.refl _) L1
  | false => rw [if_neg Bool.false_ne_true]; exact hb F ρ1 σ B1 H1 Q L1 P1
theorem et_not {f : M Bool} (ha : ET X W a f) : ET X W (.UnaryOp .Not a pos) (mNot f) := by
  intro F ρ σ B H Q L P
  refine PT.wt (pt_not pt_wt) ?_
  exact ha F ρ σ B H _ L ((Post.bind P).imp fun k ρ1 B1 H1 e1 L1 P1 => P1 B1 H1 (Ex.refl _) L1)
def mAndV (f g : M D) : M D := M.bind f fun d => match d with
  | .bl true => g
  | .bl false => M.pure (.bl false)
  | _ => M.fail
def mOrV (f g : M D) : M D := M.bind f fun d => match d with
  | .bl true => M.pure (.bl true)
  | .bl false => g
  | _ => M.fail
def mNotV (f : M D) : M D := M.bind f fun d => match d with
  | .bl k => M.pure (.bl (!k))
  | _ => M.fail
theorem ev_one {op : BoolOp} {f : M D} (h : EV X W a f) : EV X W (.BoolOp op [a] pos) f := fun F ρ σ B H Q L P => PE.we (pe_one pe_we) (h F ρ σ B H Q L P)
theorem ev_and {rest : List Expr} {f g : M D} (ha : EV X W a f) (hb : EV X W (.BoolOp .And (b :: rest) pos) g) : EV X W (.BoolOp .And (a :: b :: rest) pos) (mAndV f g) := by
  intro F ρ σ B H Q L P
  refine PE.we (pe_and pe_we pe_we) ?_
  refine ha F ρ σ B H _ L ((Post.bind P).imp fun d ρ1 B1 H1 e1 L1 P1 v fv => ?_)
  split at P1
  · cases fv
    exact ⟨true, rfl, by rw [if_pos rfl]; exact hb F ρ1 σ B1 H1 Q L1 P1⟩
  · cases fv
    exact ⟨false, rfl, by rw [if_neg Bool.false_ne_true]; exact P1 B1 H1 (Ex.refl _) L1 _ (.bl false)⟩
  · exact P1.elim
theorem ev_or {rest : List Expr} {f g : M D} (ha : EV X W a f) (hb : EV X W (.BoolOp .Or (b :: rest) pos) g) : EV X W (.BoolOp .Or (a :: b :: rest) pos) (mOrV f g) := by
  intro F ρ σ B H Q L P
  refine PE.we (pe_or pe_we pe_we) ?_
  refine ha F ρ σ B H _ L ((Post.bind P).imp fun d ρ1 B1 H1 e1 L1 P1 v fv => ?_)
  split at P1
  · cases fv
    exact ⟨true, rfl, by rw [if_pos rfl]; exact P1 B1 H1 (Ex.refl _) L1 _ (.bl true)⟩
  · cases fv
    exact ⟨false, rfl, by rw [if_neg Bool.false_ne_true]; exact hb F ρ1 σ B1 H1 Q L1 P1⟩
  · exact P1.elim
theorem ev_not {f : M D} (ha : EV X W a f) : EV X W (.UnaryOp .Not a pos) (mNotV f) := by
  intro F ρ σ B H Q L P
  refine PE.we (pe_not pe_we) ?_
  refine ha F ρ σ B H _ L ((Post.bind P).imp fun d ρ1 B1 H1 e1 L1 P1 v fv => ?_)
  split at P1
  · rename_i k
    cases fv
    exact ⟨k, rfl, P1 B1 H1 (Ex.refl _) L1 _ (.bl _)⟩
  · exact P1.elim
def mIf {α : Type} (t : M Bool) (f g : M α) : M α := M.bind t fun k => match k with
  | true => f
  | false => g
theorem ev_if {t : M Bool} {f g : M D} (hc : ET X W c t) (ha : EV X W a f) (hb : EV X W b g) : EV X W (.IfExp c a b pos) (mIf t f g) := by
  intro F ρ σ B H Q L P
  refine PE.we (pe_ifExp pt_wt pe_we pe_we) ?_
  refine hc F ρ σ B H _ L ((Post.bind P).imp fun k ρ1 B1 H1 e1 L1 P1 => ?_)
  cases k with
  | true => rw [if_pos rfl]; exact ha F ρ1 σ B1 H1 Q L1 P1
  | false => rw [if_neg Bool.false_ne_true]; exact hb F ρ1 σ B1 H1 Q L1 P1
def mChain (g g' : D → D → Option D) (f1 f2 f3 : M D) : M D := M.bind f1 fun x => M.bind f2 fun y => M.bind (M.opt (g x y)) fun z => match z with
  | .bl true => M.bind f3 fun w => M.opt (g' y w)
  | .bl false => M.pure (.bl false)
  | _ => M.fail
end
section
variable {X : Cx} {W : WX} {pos : Pos}
structure Wg (X : Cx) (tg : Expr) (v : V) (σ : St) (H : Hp) (Q : St → Hp → Prop) : Prop where
  run : ∀ (pins : List (Addr × Obj)) (s : Shared) (u : Value), Inv X pins σ H s → RelV v u → wpAny (model X.prog X.w) X.A (assign tg X.env u) (fun _ s' => ∃ σ' H', Inv X pins σ' H' s' ∧ Q σ' H') X.xe s
def wg (X : Cx) (tg : Expr) : TG := Wg X tg
theorem pg_wg {tg : Expr} : PG X tg (wg X tg) := ⟨fun pins s _ _ _ u _ I r h => Wg.run h pins s u I r⟩
theorem PG.wg {tg : Expr} {t : TG} {v : V} {σ : St} {H : Hp} {Q : St → Hp → Prop} (h : PG X tg t) (q : t v σ H Q) : wg X tg v σ H Q := Wg.mk fun pins s u I r => h.run pins s σ H v u Q I r q
structure Wgs (X : Cx) (ts : List Expr) (vs : List V) (σ : St) (H : Hp) (Q : St → Hp → Prop) : Prop where
  run : ∀ (pins : List (Addr × Obj)) (s : Shared) (us : List Value), Inv X pins σ H s → Vals vs us → wpAny (model X.prog X.w) X.A (assignInOrder ((assignEach ts X.env).map (·.2)) us) (fun _ s' => ∃ σ' H', Inv X pins σ' H' s' ∧ Q σ' H') X.xe s
def wgs (X : Cx) (ts : List Expr) : TGs := Wgs X ts
theorem pgs_wgs {ts : List Expr} : PGs X ts (wgs X ts) := ⟨fun pins s _ _ _ us _ I r h => Wgs.run h pins s us I r⟩
theorem PGs.wgs {ts : List Expr} {t : TGs} {vs : List V} {σ : St} {H : Hp} {Q : St → Hp → Prop} (h : PGs X ts t) (q : t vs σ H Q) : wgs X ts vs σ H Q := Wgs.mk fun pins s us I r => h.run pins s σ H vs us Q I r q
def Onl (is : List Nat) (σ σ' : St) : Prop := σ'.length = σ.length ∧ ∀ j, j ∉ is → σ'[j]? = σ[j]?
theorem Onl.refl (σ : St) : Onl [] σ σ := ⟨rfl, fun _ _ => rfl⟩
theorem Onl.trans {is js : List Nat} {σ σ1 σ2 : St} (a : Onl is σ σ1) (b : Onl js σ1 σ2) : Onl (is ++ js) σ σ2 :=
  ⟨b.1.trans a.1, fun j h => (b.2 j fun z => h (List.mem_append_right _ z)).trans (a.2 j fun z => h (List.mem_append_left _ z))⟩
theorem Onl.set (σ : St) (i : Nat) (v : Option V) : Onl [i] σ (σ.set i v) := ⟨List.length_set, fun j h => List.getElem?_set_ne (fun z => h (by simp [z]))⟩
def PostG (X : Cx) (F : Fr) (B : Hp) (σ : St) (is : List Nat) (r : Option Env) (Q : St → Hp → Prop) : Prop :=
  match r with
  | some ρ' => ∀ σ' B' H', Onl is σ σ' → Ex B B' → Lv X.K F ρ' σ' B' H' → Q σ' H'
  | none => False
def GV (X : Cx) (tg : Expr) (is : List Nat) (g : D → Env → Option Env) : Prop := ∀ (F : Fr) (ρ : Env) (σ : St) (B H : Hp) (v : V) (d : D) (Q : St → Hp → Prop), Lv X.K F ρ σ B H → Fz X.K B v d → PostG X F B σ is (g d ρ) Q → wg X tg v σ H Q
def GVs (X : Cx) (ts : List Expr) (is : List Nat) (g : List D → Env → Option Env) : Prop := ∀ (F : Fr) (ρ : Env) (σ : St) (B H : Hp) (vs : List V) (ds : List D) (Q : St → Hp → Prop), Lv X.K F ρ σ B H → Fzs X.K B vs ds → PostG X F B σ is (g ds ρ) Q → wgs X ts vs σ H Q
def gN (i : Nat) (d : D) (ρ : Env) : Option Env := some (ρ.set i (.fz d))
theorem gv_name {i : Nat} {x : Str} (hN : X.N.Nodup) (hi : X.N[i]? = some x := by rfl) (hx : Loc X.env.scope x := by first | exact Or.inl rfl | exact Or.inr rfl) (hf : X.fn x = true ∨ X.env.scope.names.lookup x = some .local := by first | exact .inl rfl | exact .inr rfl | assumption) : GV X (.Name x pos) [i] (gN i) := by
  intro F ρ σ B H v d Q L fv P
  refine PG.wg (pg_name hN hi hx hf) ?_
  exact P _ B H (Onl.set σ i _) (Ex.refl _) (L.store rfl fun d' z => by injection z with z; subst z; exact fv)
def gsN (ds : List D) (ρ : Env) : Option Env := match ds with
  | [] => some ρ
  | _ => none
def gsC (g : D → Env → Option Env) (gs : List D → Env → Option Env) (ds : List D) (ρ : Env) : Option Env := match ds with
  | d :: r => (g d ρ).bind (gs r)
  | [] => none
theorem gvs_nil : GVs X [] [] gsN := by
  intro F ρ σ B H vs ds Q L fs P
  refine PGs.wgs pgs_nil ?_
  cases fs with
  | nil => exact ⟨rfl, P σ B H (Onl.refl σ) (Ex.refl _) L⟩
  | cons h hs => exact P.elim
theorem gvs_cons {e : Expr} {es : List Expr} {is js : List Nat} {g : D → Env → Option Env} {gs : List D → Env → Option Env} (h1 : GV X e is g) (h2 : GVs X es js gs)
    (hs : (assignEach (e :: es) X.env).map (·.2) = assign e X.env :: (assignEach es X.env).map (·.2) := by rfl) : GVs X (e :: es) (is ++ js) (gsC g gs) := by
  intro F ρ σ B H vs ds Q L fs P
  refine PGs.wgs (pgs_cons pg_wg pgs_wgs hs) ?_
  cases fs with
  | nil => exact P.elim
  | @cons v vs d ds f fs =>
    refine ⟨v, vs, rfl, h1 F ρ σ B H v d _ L f ?_⟩
    have P' : PostG X F B σ (is ++ js) ((g d ρ).bind (gs ds)) Q := P
    cases q : g d ρ with
    | none => rw [q] at P'; exact P'.elim
    | some ρ1 =>
      rw [q] at P'
      intro σ1 B1 H1 o1 e1 L1
      refine h2 F ρ1 σ1 B1 H1 vs ds Q L1 (fs.mono e1) ?_
      have P2 : PostG X F B σ (is ++ js) (gs ds ρ1) Q := P'
      cases q2 : gs ds ρ1 with
      | none => rw [q2] at P2; exact P2.elim
      | some ρ2 => rw [q2] at P2; exact fun σ' B' H' o' e' L' => P2 σ' B' H' (o1.trans o') (e1.trans e') L'
def gT (n : Nat) (gs : List D → Env → Option Env) (d : D) (ρ : Env) : Option Env := match d with
  | .tup ds => if ds.length = n then gs ds ρ else none
  | _ => none
theorem gv_tup {es : List Expr} {k n : Nat} {is : List Nat} {gs : List D → Env → Option Env} (hc : X.calm = true) (h : GVs X es is gs) (hn : (assignEach es X.env).length = n := by rfl) (hst : (assignEach es X.env).findIdx? (·.1) = none := by rfl) : GV X (.Tuple es k pos) is (gT n gs) := by
  intro F ρ σ B H v d Q L fv P
  refine PG.wg (pg_tup hc pgs_wgs hn hst) ?_
  cases fv with
  | @tup a xs ds hs fs =>
    have P' : PostG X F B σ is (if ds.length = n then gs ds ρ else none) Q := P
    split at P'
    · rename_i hl
      exact ⟨a, xs, rfl, L.ex.st hs, by rw [fs.len]; exact hl, h F ρ σ B H xs ds Q L fs P'⟩
    · exact P'.elim
  | _ => exact P.elim
end
section
variable {X : Cx} {W : WX} {e : Expr} {pos : Pos} {st : Stmt} {rest : List Stmt}
def mSeq (f g : M Fl) : M Fl := M.bind f fun fl => match fl with
  | .nx => g
  | .bk => M.pure .bk
  | .ct => M.pure .ct
  | .rt d o => M.pure (.rt d o)
def mNx : M Fl := M.pure .nx
theorem svs_nil : SVs X W [] mNx := fun F ρ σ B H N L P => PSs.wss pss_nil (P σ B H (Ex.refl _) L)
theorem svs_cons {f g : M Fl} (h1 : SV X W st f) (h2 : SVs X W rest g) : SVs X W (st :: rest) (mSeq f g) := by
  intro F ρ σ B H N L P
  refine PSs.wss (pss_cons ps_ws pss_wss) ?_
  refine h1 F ρ σ B H _ L ?_
  have P' : PostS X W F B (M.bind f _ ρ) N := P
  unfold M.bind at P'
  cases q : f ρ with
  | ok fl ρ1 =>
    rw [q] at P'
    cases fl with
    | nx => exact fun σ' B' H' e' L' => h2 F ρ1 σ' B' H' N L' (PostS.weak P' e')
    | bk => exact P'
    | ct => exact P'
    | rt d o => exact P'
  | rz c ρ1 => rw [q] at P'; exact P'
  | fail => rw [q] at P'; exact P'
theorem svs_one {f : M Fl} (h1 : SV X W st f) : SVs X W [st] f := fun F ρ σ B H N L P => PSs.wss (pss_one ps_ws) (h1 F ρ σ B H N L P)
def Slot.of : D × Ob → Option Slot
  | (d, .ff) => some (.fz d)
  | (d, .tt) => some (.ow d)
  | (d, .dp m) => some (.dp m d)
  | (_, .al) => none
def mPut (i : Nat) (p : D × Ob) : M Fl := fun ρ => match Slot.of p with
  | some s => .ok .nx (ρ.set i s)
  | none => .fail
def mSet (i : Nat) (f : M (D × Ob)) : M Fl := M.bind f (mPut i)
theorem Lv.put {K : PySem.W.Frag} {F : Fr} {ρ : Env} {σ : St} {B H : Hp} {v : V} {p : D × Ob} {i : Nat} {s : Slot} (L : Lv K F ρ σ B H) (w : VO K F ρ σ B H v p.1 p.2) (hs : Slot.of p = some s) : Lv K F (ρ.set i s) (σ.set i (some v)) B H := by
  obtain ⟨d, o⟩ := p
  have own : ∀ {S : List Addr}, Ft K B H v s S → (∀ a ∈ S, (F.A a ∨ F.H0 a = none) ∧ ¬ OwS K B H ρ σ a) → (∀ d, s ≠ .io d) → Lv K F (ρ.set i s) (σ.set i (some v)) B H := by
    intro S f g nio
    have L1 : Lv K F (ρ.set i .un) (σ.set i (some v)) B H := L.store rfl fun d' z => nomatch z
    by_cases hi : i < ρ.length
    · have L2 := L1.own (i := i) (t := s) (v := v) (List.getElem?_set_self (by rw [← L.len]; exact hi)) f (fun a m => (g a m).1) (fun a m h => by
        rw [List.set_set] at h
        exact (g a m).2 h.store) (fun d z => absurd z (nio d))
      rw [List.set_set] at L2; exact L2
    · have e1 : ρ.set i s = ρ := List.set_eq_of_length_le (by omega)
      have e2 : σ.set i (some v) = σ := List.set_eq_of_length_le (by rw [← L.len]; omega)
      rw [e1, e2]; exact L
  cases o with
  | ff => injection hs with hs; subst hs; exact L.store rfl fun d' z => by injection z with z; subst z; exact w
  | tt =>
    injection hs with hs; subst hs
    obtain ⟨a, rfl, w, g, no⟩ := w
    exact own ⟨a, rfl, w, rfl⟩ (fun b hb => by rw [List.mem_singleton.mp hb]; exact ⟨g, no⟩) (fun d z => nomatch z)
  | dp m =>
    injection hs with hs; subst hs
    obtain ⟨S, t, nd, g⟩ := w
    exact own ⟨t, nd⟩ g (fun d z => nomatch z)
  | al => cases hs
theorem PostS.put {X : Cx} {W : WX} {F : Fr} {B : Hp} {N : Ends} {ρ : Env} {σ : St} {H : Hp} {v : V} {p : D × Ob} {i : Nat} (P : PostS X W F B (mPut i p ρ) N) (L : Lv X.K F ρ σ B H) (w : VO X.K F ρ σ B H v p.1 p.2) : N.nx (σ.set i (some v)) H := by
  unfold mPut at P
  cases q : Slot.of p with
  | none => simp only [q] at P; exact P.elim
  | some s => simp only [q] at P; exact P _ B H (Ex.refl _) (L.put w q)
theorem sv_set {i : Nat} {x : Str} {pos' : Pos} {f : M (D × Ob)} (he : EO X W e f) (hN : X.N.Nodup) (hi : X.N[i]? = some x := by rfl) (hx : Loc X.env.scope x := by first | exact Or.inl rfl | exact Or.inr rfl)
    (hs : swapsWith e (some (.Name x pos')) pos.line X.env = pure false := by rfl) (hf : X.fn x = true ∨ X.env.scope.names.lookup x = some .local := by first | exact .inl rfl | exact .inr rfl | assumption) : SV X W (.Assign [.Name x pos'] e pos) (mSet i f) := by
  intro F ρ σ B H N L P
  refine PS.ws (ps_set hN hi hx pe_we hs hf) ?_
  refine he F ρ σ B H _ L ((PostS.bind P).imp fun p ρ1 B1 H1 e1 L1 P1 v w => ?_)
  exact P1.put L1 w
def mAsg (g : D → Env → Option Env) (f : M D) : M Fl := M.bind f fun d ρ => match g d ρ with
  | some ρ' => .ok .nx ρ'
  | none => .fail
theorem sv_asg {tg : Expr} {is : List Nat} {g : D → Env → Option Env} {f : M D} (he : EV X W e f) (hg : GV X tg is g) (hs : swapsWithSole [tg] e pos.line X.env = pure false := by rfl) (hw : swappedStores [tg] e X.env = pure none := by rfl)
    (h1 : (assignEach [tg] X.env).map (·.2) = [assign tg X.env] := by rfl) : SV X W (.Assign [tg] e pos) (mAsg g f) := by
  intro F ρ σ B H N L P
  refine PS.ws (ps_asg pe_we pg_wg hs hw h1) ?_
  refine he F ρ σ B H _ L ((PostS.bind P).imp fun d ρ1 B1 H1 e1 L1 P1 v fv => ?_)
  refine hg F ρ1 σ B1 H1 v d _ L1 fv ?_
  cases q : g d ρ1 with
  | none => simp only [q] at P1; exact P1
  | some ρ2 => simp only [q] at P1; exact fun σ' B' H' _ e' L' => P1 σ' B' H' e' L'
def mPar (i j : Nat) (f : M (List D)) : M Fl := M.bind f fun ds ρ => match ds with
  | [x, y] => .ok .nx ((ρ.set i (.fz x)).set j (.fz y))
  | _ => .fail
theorem sv_par {i j : Nat} {x y : Str} {a b : Expr} {px py pt : Pos} {kt k2 : Nat} {pt2 : Pos} {f : M (List D)} (hc : X.calm = true) (hN : X.N.Nodup) (ha : EA X W [a, b] f) (hi : X.N[i]? = some x := by rfl) (hj : X.N[j]? = some y := by rfl) (hij : i ≠ j := by decide)
    (hx : X.env.scope.names.lookup x = some .local := by rfl) (hy : X.env.scope.names.lookup y = some .local := by rfl)
    (hw : swappedStores [.Tuple [.Name x px, .Name y py] kt pt] (.Tuple [a, b] k2 pt2) X.env = pure (some [x, y]) := by rfl)
    (hs : swapsWithSole [.Tuple [.Name x px, .Name y py] kt pt] (.Tuple [a, b] k2 pt2) pos.line X.env = pure false := by rfl) :
    SV X W (.Assign [.Tuple [.Name x px, .Name y py] kt pt] (.Tuple [a, b] k2 pt2) pos) (mPar i j f) := by
  intro F ρ σ B H N L P
  refine PS.ws (ps_par hc hN hi hj hij hx hy pa_wa hw hs) ?_
  refine ha F ρ σ B H _ L ((PostS.bind P).imp fun ds ρ1 B1 H1 e1 L1 P1 vs fs => ?_)
  split at P1
  · cases fs with
    | cons f1 fs =>
      cases fs with
      | cons f2 fs =>
        cases fs
        refine ⟨_, _, rfl, P1 _ B1 H1 (Ex.refl _) ?_⟩
        exact (L1.store (i := i) rfl fun d' z => by injection z with z; subst z; exact f1).store (i := j) rfl fun d' z => by injection z with z; subst z; exact f2
  · exact P1.elim
def mRet (f : M (D × Ob)) : M Fl := M.bind f fun p => M.pure (.rt p.1 p.2)
theorem sv_ret {f : M (D × Ob)} (he : EO X W e f) : SV X W (.Return (some e) pos) (mRet f) := by
  intro F ρ σ B H N L P
  refine PS.ws (ps_ret pe_we) ?_
  exact he F ρ σ B H _ L ((PostS.bind P).imp fun p ρ1 B1 H1 e1 L1 P1 v w => P1 v σ B1 H1 (Ex.refl _) L1 w)
def mDrop (f : M D) : M Fl := M.bind f fun _ => mNx
theorem sv_expr {f : M D} (he : EV X W e f) (hs : swapsWith e none pos.line X.env = pure false := by rfl) : SV X W (.Expr e pos) (mDrop f) := by
  intro F ρ σ B H N L P
  refine PS.ws (ps_expr pe_we hs) ?_
  exact he F ρ σ B H _ L ((PostS.bind P).imp fun p ρ1 B1 H1 e1 L1 P1 v w => P1 σ B1 H1 (Ex.refl _) L1)
theorem sv_if {c : Expr} {a b : List Stmt} {t : M Bool} {f g : M Fl} (hc : ET X W c t) (ha : SVs X W a f) (hb : SVs X W b g) : SV X W (.If c a b pos) (mIf t f g) := by
  intro F ρ σ B H N L P
  refine PS.ws (ps_if pt_wt pss_wss pss_wss) ?_
  refine hc F ρ σ B H _ L ((PostS.bind P).imp fun k ρ1 B1 H1 e1 L1 P1 => ?_)
  cases k with
  | true => rw [if_pos rfl]; exact ha F ρ1 σ B1 H1 N L1 P1
  | false => rw [if_neg Bool.false_ne_true]; exact hb F ρ1 σ B1 H1 N L1 P1
def mWhN (t : M Bool) (b : M Fl) : Nat → M Fl
  | 0 => M.fail
  | n + 1 => M.bind t fun k => match k with
    | false => mNx
    | true => M.bind b fun fl => match fl with
      | .nx => mWhN t b n
      | .ct => mWhN t b n
      | .bk => mNx
      | .rt d o => M.pure (.rt d o)
open Classical in
noncomputable def mWh (t : M Bool) (b : M Fl) : M Fl := fun ρ => if h : ∃ n, mWhN t b n ρ ≠ .fail then mWhN t b (choose h) ρ else .fail
theorem mWhN_up (t : M Bool) (b : M Fl) : ∀ (n : Nat) (ρ : Env), mWhN t b n ρ ≠ .fail → ∀ m, n ≤ m → mWhN t b m ρ = mWhN t b n ρ
  | 0, ρ, h, _, _ => absurd rfl h
  | n + 1, ρ, h, 0, hm => by omega
  | n + 1, ρ, h, m + 1, hm => by
    unfold mWhN M.bind at h ⊢
    cases q : t ρ with
    | ok k ρ1 =>
      simp only [q] at h ⊢
      cases k with
      | false => rfl
      | true =>
        simp only at h ⊢
        cases q2 : b ρ1 with
        | ok fl ρ2 =>
          simp only [q2] at h ⊢
          cases fl with
          | nx => exact mWhN_up t b n ρ2 h m (by omega)
          | ct => exact mWhN_up t b n ρ2 h m (by omega)
          | bk => rfl
          | rt d o => rfl
        | rz c ρ2 => rfl
        | fail => rfl
    | rz c ρ1 => rfl
    | fail => rfl
theorem mWh_eq {t : M Bool} {b : M Fl} {n : Nat} {ρ : Env} (h : mWhN t b n ρ ≠ .fail) : mWh t b ρ = mWhN t b n ρ := by
  have hx : ∃ n, mWhN t b n ρ ≠ .fail := ⟨n, h⟩
  unfold mWh
  rw [dif_pos hx]
  have h2 := Classical.choose_spec hx
  by_cases q : n ≤ Classical.choose hx
  · exact mWhN_up t b n ρ h _ q
  · exact (mWhN_up t b _ ρ h2 n (by omega)).symm
theorem sv_while {c : Expr} {body : List Stmt} {t : M Bool} {b : M Fl} (hp : PassesOwn (model X.prog X.w) X.A X.env X.xe) (hc : ET X W c t) (hb : SVs X W body b) : SV X W (.While c body [] pos) (mWh t b) := by
  intro F ρ σ B H N L P
  refine PS.ws (ps_while hp pt_wt pss_wss) ?_
  unfold mWh at P
  split at P
  · rename_i hx
    refine ⟨fun m σ' H' => ∃ ρ' B', Lv X.K F ρ' σ' B' H' ∧ PostS X W F B' (mWhN t b m ρ') N, ⟨_, ρ, B, L, P⟩, ?_⟩
    rintro m σ1 H1 ⟨ρ1, B1, L1, P1⟩
    cases m with
    | zero => exact P1.elim
    | succ n =>
      unfold mWhN at P1
      refine hc F ρ1 σ1 B1 H1 _ L1 ((PostS.bind P1).imp fun k ρ2 B2 H2 e2 L2 P2 => ?_)
      cases k with
      | false => rw [if_neg Bool.false_ne_true]; exact P2 σ1 B2 H2 (Ex.refl _) L2
      | true =>
        rw [if_pos rfl]
        refine ⟨fun σ' H' => ∃ ρ' B', Lv X.K F ρ' σ' B' H' ∧ PostS X W F B' (mWhN t b n ρ') N, fun σ' H' q => ⟨n, Nat.lt_succ_self n, q⟩, ?_⟩
        refine hb F ρ2 σ1 B2 H2 _ L2 ?_
        have P3 : PostS X W F B2 (M.bind b _ ρ2) N := P2
        unfold M.bind at P3
        cases q : b ρ2 with
        | ok fl ρ3 =>
          rw [q] at P3
          cases fl with
          | nx => exact fun σ' B' H' e' L' => ⟨ρ3, B', L', PostS.weak P3 e'⟩
          | ct => exact fun σ' B' H' e' L' => ⟨ρ3, B', L', PostS.weak P3 e'⟩
          | bk => exact P3
          | rt d o => exact P3
        | rz c ρ3 => rw [q] at P3; exact P3
        | fail => rw [q] at P3; exact P3
  · exact P.elim
end
section
variable {X : Cx} {W : WX} {tg e : Expr} {pos : Pos}
structure Wi (X : Cx) (tg iter : Expr) (σ : St) (H : Hp) (R : It → Hp → Prop) : Prop where
  run : ∀ (pins : List (Addr × Obj)) (s : Shared), Inv X pins σ H s → wpAny (model X.prog X.w) X.A (eval iter X.env) (fun v s1 => wpAny (model X.prog X.w) X.A (pyIter v) (PIE X pins σ tg R) X.xe s1) X.xe s
def wi (X : Cx) (tg iter : Expr) : TI := Wi X tg iter
theorem pi_wi : PI X tg e (wi X tg e) := ⟨fun pins s _ _ _ I h => Wi.run h pins s I⟩
theorem PI.wi {t : TI} {σ : St} {H : Hp} {R : It → Hp → Prop} (h : PI X tg e t) (q : t σ H R) : wi X tg e σ H R := Wi.mk fun pins s I => h.run pins s σ H R I q
structure ItOk (K : PySem.W.Frag) (J : It) (B : Hp) (ds : List D) : Prop where
  go : ∀ B' H' i, Ex B B' → Ex B' H' → i < ds.length → J.go i H'
  stop : ∀ B' H' i, Ex B B' → Ex B' H' → ds.length ≤ i → J.stop i H'
  yld : ∀ B' H' i x H3 d, Ex B B' → Ex B' H' → J.yld i H' x H3 → ds[i]? = some d → (H3 = H' ∧ Fz K B' x d) ∨ (∃ p o, H' p = none ∧ H3 = upd H' p o ∧ Fz K (upd B' p o) x d) ∨ ∃ p xs, H' p = some (.tup xs) ∧ B' p = none ∧ H3 = H' ∧ Fz K (upd B' p (.tup xs)) x d
def IV (X : Cx) (W : WX) (tg iter : Expr) (f : M (List D)) : Prop := ∀ (F : Fr) (ρ : Env) (σ : St) (B H : Hp) (R : It → Hp → Prop), Lv X.K F ρ σ B H →
  Post X W F σ B (f ρ) (fun ds _ B' H' => ∀ J, ItOk X.K J B' ds → R J H') → wi X tg iter σ H R
def mIter (f : M D) : M (List D) := M.bind f fun d => M.opt (match d with
  | .lst ds => some ds
  | _ => none)
theorem it_list {K : PySem.W.Frag} {a : Addr} {xs : List V} {B : Hp} {ds : List D} (h : B a = some (.lst xs)) (fs : Fzs K B xs ds) : ItOk K (Itl K a) B ds where
  go := fun B' H' i e1 e2 hi => by
    have hi' : i < xs.length := by rw [fs.len]; exact hi
    exact ⟨xs, xs[i], .inl (.inl (e2 _ _ (e1 _ _ h))), List.getElem?_eq_getElem hi'⟩
  stop := fun B' H' i e1 e2 hi => ⟨xs, .inl (.inl (e2 _ _ (e1 _ _ h))), by rw [fs.len]; exact hi⟩
  yld := fun B' H' i x H3 d e1 e2 y hd => by
    obtain ⟨hH, hx⟩ := y
    have h1 := hx xs (.inl (.inl (e2 _ _ (e1 _ _ h))))
    obtain ⟨d', hd', f⟩ := fs.getV h1
    rw [hd] at hd'; cases hd'
    exact .inl ⟨hH, f.mono e1⟩
theorem iv_list {f : M D} (he : EV X W e f) : IV X W tg e (mIter f) := by
  intro F ρ σ B H R L P
  refine PI.wi (pi_list pe_we) ?_
  refine he F ρ σ B H _ L ((Post.bind P).imp fun d ρ1 B1 H1 e1 L1 P1 v fv => ?_)
  obtain ⟨ds, hd, k⟩ := P1.opt
  cases fv with
  | @lst a xs ds' h fs =>
    injection hd with hd; subst hd
    exact ⟨a, rfl, ⟨xs, .inl (.inl (L1.ex _ _ h))⟩, k B1 H1 (Ex.refl _) L1 _ (it_list h fs)⟩
  | _ => cases hd
def rangeD (lo hi : Int) : List D := (List.range (hi - lo).toNat).map fun (i : Nat) => D.int (lo + (i : Int))
theorem rangeD_len (lo hi : Int) : (rangeD lo hi).length = (hi - lo).toNat := by unfold rangeD; rw [List.length_map, List.length_range]
theorem it_range {K : PySem.W.Frag} {B : Hp} (lo hi : Int) : ItOk K (Itr lo (hi - lo).toNat) B (rangeD lo hi) where
  go := fun B' H' i e1 e2 h => by rw [rangeD_len] at h; exact h
  stop := fun B' H' i e1 e2 h => by rw [rangeD_len] at h; exact h
  yld := fun B' H' i x H3 d e1 e2 y hd => by
    obtain ⟨hH, hx⟩ := y
    unfold rangeD at hd
    rw [List.getElem?_map] at hd
    cases q : (List.range (hi - lo).toNat)[i]? with
    | none => rw [q] at hd; cases hd
    | some j =>
      rw [q] at hd
      obtain ⟨h1, h2⟩ := List.getElem?_eq_some_iff.mp q
      rw [List.getElem_range] at h2
      injection hd with hd
      subst hd; subst h2
      exact .inl ⟨hH, by rw [hx]; exact .int _⟩
def mRange1 (f : M (List D)) : M (List D) := M.bind f fun ds => M.opt (match ds with
  | [.int j] => if -100000000 < j ∧ j < 100000000 then some (rangeD 0 j) else none
  | _ => none)
def mRange2 (f : M (List D)) : M (List D) := M.bind f fun ds => M.opt (match ds with
  | [.int i, .int j] => if (-100000000 < i ∧ i < 100000000) ∧ (-100000000 < j ∧ j < 100000000) then some (rangeD i j) else none
  | _ => none)
theorem iv_range1 {a : Expr} {p : Pos} {f : M (List D)} (hg : Gl X "range") (hm : X.mg "range" = none) (ha : EA X W [a] f) (hs : starEach [a] X.env = [(false, eval a X.env)] := by rfl) : IV X W tg (.Call (.Name "range" p) [a] [] pos) (mRange1 f) := by
  intro F ρ σ B H R L P
  refine PI.wi (pi_range1 hg hm pa_wa hs) ?_
  refine ha F ρ σ B H _ L ((Post.bind P).imp fun ds ρ1 B1 H1 e1 L1 P1 vs fs => ?_)
  obtain ⟨xs, hd, k⟩ := P1.opt
  split at hd
  · rename_i j
    cases fs with
    | cons f1 fs =>
      cases fs
      cases f1
      split at hd
      · rename_i hj
        injection hd with hd; subst hd
        refine ⟨j, rfl, by omega, by omega, ?_⟩
        have := k B1 H1 (Ex.refl _) L1 (Itr 0 j.toNat) (by have q := it_range (K := X.K) (B := B1) 0 j; rw [show j - 0 = j by omega] at q; exact q)
        exact this
      · cases hd
  · cases hd
def mForL (g : D → Env → Option Env) (b : M Fl) : List D → M Fl
  | [] => mNx
  | d :: r => fun ρ => match g d ρ with
    | none => .fail
    | some ρ1 => M.bind b (fun fl => match fl with
      | .nx => mForL g b r
      | .ct => mForL g b r
      | .bk => mNx
      | .rt d o => M.pure (.rt d o)) ρ1
def mFor (f : M (List D)) (g : D → Env → Option Env) (b : M Fl) : M Fl := M.bind f (mForL g b)
theorem sv_for {iter : Expr} {body : List Stmt} {is : List Nat} {f : M (List D)} {g : D → Env → Option Env} {b : M Fl} (hp : PassesOwn (model X.prog X.w) X.A X.env X.xe) (hc : X.calm = true) (hi : IV X W tg iter f) (hg : GV X tg is g) (hb : SVs X W body b)
    (hs : ∀ x, foldedSetIterable iter X.env x = pure x := by intro _; rfl) : SV X W (.For tg iter body [] pos) (mFor f g b) := by
  intro F ρ σ B H N L P
  refine PS.ws (ps_for hp hc pi_wi pg_wg pss_wss hs) ?_
  refine hi F ρ σ B H _ L ((PostS.bind P).imp fun ds ρ1 B1 H1 e1 L1 P1 J hJ => ?_)
  refine ⟨fun i m σ' H' => m = ds.length - i ∧ i ≤ ds.length ∧ ∃ ρ' B', Lv X.K F ρ' σ' B' H' ∧ Ex B1 B' ∧ PostS X W F B' (mForL g b (ds.drop i) ρ') N, ⟨ds.length, by simp, Nat.zero_le _, ρ1, B1, L1, Ex.refl _, P1⟩, ?_⟩
  rintro i m σ2 H2 ⟨rfl, hi2, ρ2, B2, L2, e2, P2⟩
  by_cases hlt : i < ds.length
  · refine .inr ⟨hJ.go B2 H2 i e2 L2.ex hlt, fun σ' H' => ∃ ρ' B', Lv X.K F ρ' σ' B' H' ∧ Ex B1 B' ∧ PostS X W F B' (mForL g b (ds.drop (i + 1)) ρ') N, fun σ' H' q => ⟨ds.length - (i + 1), by omega, rfl, hlt, q⟩, fun x H3 hy => ?_⟩
    rw [List.drop_eq_getElem_cons hlt] at P2
    have hd : ds[i]? = some ds[i] := List.getElem?_eq_getElem hlt
    have fin : ∀ (B3 : Hp), Ex B2 B3 → Lv X.K F ρ2 σ2 B3 H3 → Fz X.K B3 x ds[i] → wg X tg x σ2 H3 (fun σ3 H4 => wss X body { nx := fun σ' H' => ∃ ρ' B', Lv X.K F ρ' σ' B' H' ∧ Ex B1 B' ∧ PostS X W F B' (mForL g b (ds.drop (i + 1)) ρ') N, rt := N.rt, bk := N.nx, ct := fun σ' H' => ∃ ρ' B', Lv X.K F ρ' σ' B' H' ∧ Ex B1 B' ∧ PostS X W F B' (mForL g b (ds.drop (i + 1)) ρ') N } σ3 H4) := by
      intro B3 e3 L3 fx
      refine hg F ρ2 σ2 B3 H3 x ds[i] _ L3 fx ?_
      have P3 : PostS X W F B2 (match g ds[i] ρ2 with | none => .fail | some ρ1 => M.bind b (fun fl => match fl with | .nx => mForL g b (ds.drop (i + 1)) | .ct => mForL g b (ds.drop (i + 1)) | .bk => mNx | .rt d o => M.pure (.rt d o)) ρ1) N := P2
      cases q : g ds[i] ρ2 with
      | none => rw [q] at P3; exact P3.elim
      | some ρ3 =>
        rw [q] at P3
        intro σ4 B4 H4 _ e4 L4
        refine hb F ρ3 σ4 B4 H4 _ L4 ?_
        have P4 := PostS.weak P3 (e3.trans e4)
        have P5 : PostS X W F B4 (M.bind b _ ρ3) N := P4
        unfold M.bind at P5
        cases q2 : b ρ3 with
        | ok fl ρ4 =>
          rw [q2] at P5
          cases fl with
          | nx => exact fun σ' B' H' e' L' => ⟨ρ4, B', L', ((e2.trans e3).trans e4).trans e', PostS.weak P5 e'⟩
          | ct => exact fun σ' B' H' e' L' => ⟨ρ4, B', L', ((e2.trans e3).trans e4).trans e', PostS.weak P5 e'⟩
          | bk => exact P5
          | rt d o => exact P5
        | rz c ρ4 => rw [q2] at P5; exact P5
        | fail => rw [q2] at P5; exact P5
    rcases hJ.yld B2 H2 i x H3 _ e2 L2.ex hy hd with ⟨rfl, fx⟩ | ⟨p, o, hp2, rfl, fx⟩ | ⟨p, xs, hp2, hp3, rfl, fx⟩
    · exact fin B2 (Ex.refl _) L2 fx
    · exact fin _ (Ex.new (L2.ex.nn hp2)) (L2.alloc hp2) fx
    · exact fin _ (Ex.new hp3) (L2.freezeT hp2 hp3) fx
  · have e : i = ds.length := by omega
    subst e
    rw [List.drop_length] at P2
    exact .inl ⟨hJ.stop B2 H2 _ e2 L2.ex (Nat.le_refl _), P2 σ2 B2 H2 (Ex.refl _) L2⟩
end
end Dt
namespace Dt
open PySem PySem.Spec PyProof.Rows L2
section
variable {X : Cx} {K : PySem.W.Frag}
def iI (C : Int → Int → Bool) (f : Int → Int → Int) : D → D → Option D
  | .int i, .int j => if C i j = true then some (.int (f i j)) else none
  | _, _ => none
def iB (f : Int → Int → Bool) : D → D → Option D
  | .int i, .int j => some (.bl (f i j))
  | _, _ => none
theorem opd_I {C : Int → Int → Prop} {c : Int → Int → Bool} {f : Int → Int → Int} (hc : ∀ i j, c i j = true → C i j) : OpD K (rI C fun i j => .int (f i j)) (iI c f) := by
  intro x y dx dy d B H Q ex fx fy h g
  unfold iI at h
  split at h
  · cases fx; cases fy
    split at h
    · rename_i hh
      injection h with h; subst h
      exact ⟨_, _, rfl, rfl, hc _ _ hh, g.1 _ (.int _)⟩
    · cases h
  · cases h
theorem opd_I0 {f : Int → Int → Int} : OpD K (rI0 fun i j => .int (f i j)) (iI (fun _ _ => true) f) := by
  intro x y dx dy d B H Q ex fx fy h g
  unfold iI at h
  split at h
  · cases fx; cases fy
    rw [if_pos rfl] at h
    injection h with h; subst h
    exact ⟨_, _, rfl, rfl, g.1 _ (.int _)⟩
  · cases h
theorem opd_B {f : Int → Int → Bool} : OpD K (rI0 fun i j => .bl (f i j)) (iB f) := by
  intro x y dx dy d B H Q ex fx fy h g
  unfold iB at h
  split at h
  · cases fx; cases fy
    injection h with h; subst h
    exact ⟨_, _, rfl, rfl, g.1 _ (.bl _)⟩
  · cases h
def mulOk (i j : Int) : Bool := decide (i.natAbs.log2 + j.natAbs.log2 < 100000000)
theorem mulOk_ok {i j : Int} (h : mulOk i j = true) : IntMulOk i j := by
  have b : ∀ x : Int, Builtin.Int.intBits x ≤ x.natAbs.log2 + 1 := fun x => by
    unfold Builtin.Int.intBits
    split <;> omega
  have h1 := b i
  have h2 := b j
  have h3 : i.natAbs.log2 + j.natAbs.log2 < 100000000 := of_decide_eq_true h
  have e : bitsLine = 134217728 := by decide
  unfold IntMulOk
  intro z
  rw [Bool.and_eq_true] at z
  have z2 := z.2
  unfold Builtin.Int.intTooBig at z2
  have z3 := of_decide_eq_true z2
  rw [e] at z3
  omega
theorem op_mulB : OpR X (binaryOp .Mult) (rI (fun i j => mulOk i j = true) fun i j => .int (i * j)) := opI fun _ _ _ _ _ _ _ hc q => mul_int q (mulOk_ok hc)
def divOk (_ j : Int) : Bool := decide (j ≠ 0)
def modOk (_ j : Int) : Bool := decide (j ≠ 0)
theorem op_modB : OpR X (binaryOp .Mod) (rI (fun i j => modOk i j = true) fun i j => .int (i.fmod j)) := opI fun _ _ _ _ _ _ _ hc q => mod_int' (of_decide_eq_true hc) q
def powOk (i j : Int) : Bool := decide (0 ≤ j) && decide (j ≤ 1000) && decide (i.natAbs < 2 ^ 64)
theorem op_powB : OpR X (binaryOp .Pow) (rI (fun i j => powOk i j = true) fun i j => .int (i ^ j.toNat)) := opI fun _ _ _ _ _ _ _ hc q => by
  unfold powOk at hc
  rw [Bool.and_eq_true, Bool.and_eq_true] at hc
  have h1 := of_decide_eq_true hc.1.1
  have h2 := of_decide_eq_true hc.1.2
  have h3 := of_decide_eq_true hc.2
  exact pow_int_small h1 (by omega) h3 q
def dSub : D → D → Option D := iI (fun _ _ => true) fun i j => i - j
def dDiv : D → D → Option D := iI divOk fun i j => i.fdiv j
def dMod : D → D → Option D := iI modOk fun i j => i.fmod j
def dPow : D → D → Option D := iI powOk fun i j => i ^ j.toNat
def dLt : D → D → Option D := iB fun i j => decide (i < j)
def dLe : D → D → Option D := iB fun i j => decide (i ≤ j)
def dGt : D → D → Option D := iB fun i j => decide (j < i)
def dGe : D → D → Option D := iB fun i j => decide (j ≤ i)
variable {W : WX} {e a b c : Expr} {pos : Pos} {f1 f2 f3 : M D}
theorem ev_sub (ha : EV X W a f1) (hb : EV X W b f2) : EV X W (.BinOp a .Sub b pos) (mBin dSub f1 f2) := ev_op op_sub opd_I0 ha hb
theorem ev_mod (ha : EV X W a f1) (hb : EV X W b f2) : EV X W (.BinOp a .Mod b pos) (mBin dMod f1 f2) := ev_op op_modB (opd_I fun _ _ h => h) ha hb
theorem ev_pow (ha : EV X W a f1) (hb : EV X W b f2) : EV X W (.BinOp a .Pow b pos) (mBin dPow f1 f2) := ev_op op_powB (opd_I fun _ _ h => h) ha hb
theorem ev_lt (ha : EV X W a f1) (hb : EV X W b f2) : EV X W (.Compare a [.Lt] [b] pos) (mBin dLt f1 f2) := ev_cmp op_lt opd_B ha hb
theorem ev_le (ha : EV X W a f1) (hb : EV X W b f2) : EV X W (.Compare a [.LtE] [b] pos) (mBin dLe f1 f2) := ev_cmp op_le opd_B ha hb
theorem ev_gt (ha : EV X W a f1) (hb : EV X W b f2) : EV X W (.Compare a [.Gt] [b] pos) (mBin dGt f1 f2) := ev_cmp op_gt opd_B ha hb
theorem ev_ge (ha : EV X W a f1) (hb : EV X W b f2) : EV X W (.Compare a [.GtE] [b] pos) (mBin dGe f1 f2) := ev_cmp op_ge opd_B ha hb
theorem et_lt (ha : EV X W a f1) (hb : EV X W b f2) : ET X W (.Compare a [.Lt] [b] pos) (mTest (mBin dLt f1 f2)) := et_cmp op_lt opd_B ha hb
theorem et_gt (ha : EV X W a f1) (hb : EV X W b f2) : ET X W (.Compare a [.Gt] [b] pos) (mTest (mBin dGt f1 f2)) := et_cmp op_gt opd_B ha hb
def dNeg : D → Option D
  | .int i => some (.int (-i))
  | _ => none
theorem ev_neg (ha : EV X W a f1) : EV X W (.UnaryOp .USub a pos) (mUn dNeg f1) := ev_un un_neg (fun x dx d B H Q ex fx h g => by
  cases fx with
  | int i => injection h with h; subst h; exact ⟨i, rfl, g.1 _ (.int _)⟩
  | _ => cases h) ha
def tooLong (n : Nat) : Bool := decide (10000000 < n)
def dAdd : D → D → Option D
  | .int i, .int j => some (.int (i + j))
  | .str x, .str y => if tooLong (x.length + y.length) = true then none else some (.str (x ++ y))
  | .lst xs, .lst ys => if tooLong (xs.length + ys.length) = true then none else some (.lst (xs ++ ys))
  | .tup xs, .tup ys => if tooLong (xs.length + ys.length) = true then none else some (.tup (xs ++ ys))
  | _, _ => none
theorem notLong {n : Nat} (h : ¬ tooLong n = true) : n ≤ sizeLine := by
  have h1 : n ≤ 10000000 := by
    unfold tooLong at h
    rw [decide_eq_true_iff] at h
    omega
  exact Nat.le_trans h1 (by decide)
theorem len_line' {n : Nat} (h : n ≤ 10000000) : n ≤ sizeLine := Nat.le_trans h (by decide)
theorem ev_add (ha : EV X W a f1) (hb : EV X W b f2) : EV X W (.BinOp a .Add b pos) (mBin dAdd f1 f2) := by
  refine ev_op (((op_add.or op_add_str).or op_catA).or op_cat) (fun x y dx dy d B H Q ex fx fy h g => ?_) ha hb
  cases fx with
  | int i =>
    cases fy with
    | int j => injection h with h; subst h; exact .inl (.inl (.inl ⟨i, j, rfl, rfl, g.1 _ (.int _)⟩))
    | _ => cases h
  | str x =>
    cases fy with
    | str y =>
      have h' : (if tooLong (x.length + y.length) = true then none else some (D.str (x ++ y))) = some d := h
      split at h'
      · cases h'
      · rename_i hl
        injection h' with h'; subst h'
        exact .inl (.inl (.inr ⟨x, y, rfl, rfl, notLong hl, g.1 _ (.str _)⟩))
    | _ => cases h
  | @lst l xs ds hl fs =>
    cases fy with
    | @lst l2 ys es hl2 fs2 =>
      have h' : (if tooLong (ds.length + es.length) = true then none else some (D.lst (ds ++ es))) = some d := h
      split at h'
      · cases h'
      · rename_i hz
        injection h' with h'; subst h'
        refine .inr ⟨l, l2, xs, ys, rfl, rfl, ex _ _ hl, ex _ _ hl2, by rw [fs.len, fs2.len]; exact notLong hz, fun p hp => g.2 p _ _ hp (.lst upd_same ?_)⟩
        exact (fs.append fs2).mono (Ex.new (ex.nn hp))
    | _ => cases h
  | @tup l xs ds hl fs =>
    cases fy with
    | @tup l2 ys es hl2 fs2 =>
      have h' : (if tooLong (ds.length + es.length) = true then none else some (D.tup (ds ++ es))) = some d := h
      split at h'
      · cases h'
      · rename_i hz
        injection h' with h'; subst h'
        refine .inl (.inr ⟨l, l2, xs, ys, rfl, rfl, ex.st hl, ex.st hl2, by rw [fs.len, fs2.len]; exact notLong hz, fun z => ?_, fun _ z => ?_, fun _ _ p hp => g.2 p _ _ hp (.tup (.inl (.inl upd_same)) ((fs.append fs2).mono (Ex.new (ex.nn hp))))⟩)
        · subst z; cases fs; exact g.1 _ (.tup hl2 fs2)
        · subst z; cases fs2
          rw [List.append_nil] at g
          exact g.1 _ (.tup hl fs)
    | _ => cases h
  | _ => cases h
def dMul : D → D → Option D
  | .int i, .int j => if mulOk i j = true then some (.int (i * j)) else none
  | .lst xs, .int k => if k < 10000 ∧ -10000 < k ∧ xs.length ≤ 1000 then some (.lst (List.replicate k.toNat xs).flatten) else none
  | _, _ => none
theorem Fzs.rep {K : PySem.W.Frag} {B : Hp} {vs : List V} {ds : List D} (h : Fzs K B vs ds) : ∀ k : Nat, Fzs K B (List.replicate k vs).flatten (List.replicate k ds).flatten
  | 0 => .nil
  | k + 1 => by
    rw [List.replicate_succ, List.replicate_succ, List.flatten_cons, List.flatten_cons]
    exact Fzs.append h (Fzs.rep h k)
theorem ev_mul (ha : EV X W a f1) (hb : EV X W b f2) : EV X W (.BinOp a .Mult b pos) (mBin dMul f1 f2) := by
  refine ev_op (op_mulB.or op_rep) (fun x y dx dy d B H Q ex fx fy h g => ?_) ha hb
  cases fx with
  | int i =>
    cases fy with
    | int j =>
      have h' : (if mulOk i j = true then some (D.int (i * j)) else none) = some d := h
      split at h'
      · rename_i hm
        injection h' with h'; subst h'; exact .inl ⟨i, j, rfl, rfl, hm, g.1 _ (.int _)⟩
      · cases h'
    | _ => cases h
  | @lst l xs ds hl fs =>
    cases fy with
    | int k =>
      have h' : (if k < 10000 ∧ -10000 < k ∧ ds.length ≤ 1000 then some (D.lst (List.replicate k.toNat ds).flatten) else none) = some d := h
      split at h'
      · rename_i hk
        injection h' with h'; subst h'
        refine .inr ⟨l, k, xs, rfl, rfl, ex _ _ hl, by omega, by omega, ?_, fun p hp => g.2 p _ _ hp (.lst upd_same ((fs.rep k.toNat).mono (Ex.new (ex.nn hp))))⟩
        have h1 : xs.length ≤ 1000 := by rw [fs.len]; exact hk.2.2
        have h2 : k.toNat ≤ 10000 := by omega
        exact len_line' (Nat.le_trans (Nat.mul_le_mul h1 h2) (by decide))
      · cases h'
    | _ => cases h
  | _ => cases h
def shp (d : D) : Bool := SeqAt.shaped d.py
def dEq : D → D → Option D
  | .int i, .int j => some (.bl (i == j))
  | .str i, .str j => some (.bl (i == j))
  | d, e => if shp d = true ∧ shp e = true then some (.bl (PyData.eqv d.py e.py)) else none
def dNe : D → D → Option D
  | .int i, .int j => some (.bl (!(i == j)))
  | .str i, .str j => some (.bl (!(i == j)))
  | d, e => if shp d = true ∧ shp e = true then some (.bl (!PyData.eqv d.py e.py)) else none
theorem opd_eq : OpD K (fun x y H Q => rEq x y H Q ∨ rEqD K x y H Q) dEq := by
  intro x y dx dy d B H Q ex fx fy h g
  unfold dEq at h
  split at h
  · cases fx; cases fy
    injection h with h; subst h
    exact .inl ⟨rfl, by rw [dec_int]; exact g.1 _ (.bl _)⟩
  · cases fx; cases fy
    injection h with h; subst h
    exact .inl ⟨rfl, by rw [dec_str]; exact g.1 _ (.bl _)⟩
  · split at h
    · rename_i hh
      injection h with h; subst h
      exact .inr ⟨_, _, fx.dp ex (D.nd_lay (SeqAt.canLay_of_shaped hh.1)), fy.dp ex (D.nd_lay (SeqAt.canLay_of_shaped hh.2)), hh.1, hh.2, g.1 _ (.bl _)⟩
    · cases h
theorem opd_ne : OpD K (fun x y H Q => rNe x y H Q ∨ rNeD K x y H Q) dNe := by
  intro x y dx dy d B H Q ex fx fy h g
  unfold dNe at h
  split at h
  · cases fx; cases fy
    injection h with h; subst h
    exact .inl ⟨rfl, by rw [dec_int]; exact g.1 _ (.bl _)⟩
  · cases fx; cases fy
    injection h with h; subst h
    exact .inl ⟨rfl, by rw [dec_str]; exact g.1 _ (.bl _)⟩
  · split at h
    · rename_i hh
      injection h with h; subst h
      exact .inr ⟨_, _, fx.dp ex (D.nd_lay (SeqAt.canLay_of_shaped hh.1)), fy.dp ex (D.nd_lay (SeqAt.canLay_of_shaped hh.2)), hh.1, hh.2, g.1 _ (.bl _)⟩
    · cases h
theorem ev_eq (hu : X.A.units + 64 < cLine) (ha : EV X W a f1) (hb : EV X W b f2) : EV X W (.Compare a [.Eq] [b] pos) (mBin dEq f1 f2) := ev_cmp (op_eq.or (op_eqD hu)) opd_eq ha hb
theorem et_eq (hu : X.A.units + 64 < cLine) (ha : EV X W a f1) (hb : EV X W b f2) : ET X W (.Compare a [.Eq] [b] pos) (mTest (mBin dEq f1 f2)) := et_cmp (op_eq.or (op_eqD hu)) opd_eq ha hb
theorem ev_ne (hu : X.A.units + 64 < cLine) (ha : EV X W a f1) (hb : EV X W b f2) : EV X W (.Compare a [.NotEq] [b] pos) (mBin dNe f1 f2) := ev_cmp (op_ne.or (op_neD hu)) opd_ne ha hb
theorem et_ne (hu : X.A.units + 64 < cLine) (ha : EV X W a f1) (hb : EV X W b f2) : ET X W (.Compare a [.NotEq] [b] pos) (mTest (mBin dNe f1 f2)) := et_cmp (op_ne.or (op_neD hu)) opd_ne ha hb
def dIs : D → D → Option D
  | .bl i, .bl j => some (.bl (decide (i = j)))
  | .non, .non => some (.bl true)
  | .lst _, .non => some (.bl false)
  | .tup _, .non => some (.bl false)
  | .int _, .non => some (.bl false)
  | .str _, .non => some (.bl false)
  | .key _, .non => some (.bl false)
  | _, _ => none
def dIsNot : D → D → Option D
  | .bl i, .bl j => some (.bl (!decide (i = j)))
  | .non, .non => some (.bl false)
  | .lst _, .non => some (.bl true)
  | .tup _, .non => some (.bl true)
  | .int _, .non => some (.bl true)
  | .str _, .non => some (.bl true)
  | .key _, .non => some (.bl true)
  | _, _ => none
def flatD : D → Bool
  | .non => true
  | .bl _ => true
  | .int _ => true
  | .str _ => true
  | _ => false
def eqF : D → D → Bool
  | .non, .non => true
  | .bl a, .bl b => a == b
  | .bl a, .int b => (if a then 1 else 0) == b
  | .int a, .bl b => a == (if b then 1 else 0)
  | .int a, .int b => a == b
  | .str a, .str b => a == b
  | _, _ => false
theorem Fz.flat {K : PySem.W.Frag} {B : Hp} {v : V} {d : D} (h : Fz K B v d) (f : flatD d = true) : flatV v = true := by
  cases h <;> first | rfl | cases f
theorem Fz.eqF {K : PySem.W.Frag} {B : Hp} {v w : V} {d e : D} (h : Fz K B v d) (g : Fz K B w e) (f : flatD d = true) (f' : flatD e = true) : eqV v w = eqF d e := by
  cases h <;> cases g <;> first | rfl | (exfalso; exact Bool.false_ne_true f) | (exfalso; exact Bool.false_ne_true f')
theorem Fzs.flat {K : PySem.W.Frag} {B : Hp} : ∀ {vs : List V} {ds : List D}, Fzs K B vs ds → ds.all flatD = true → vs.all flatV = true
  | _, _, .nil, _ => rfl
  | _, _, .cons h hs, f => by
    rw [List.all_cons, Bool.and_eq_true] at f ⊢
    exact ⟨h.flat f.1, Fzs.flat hs f.2⟩
theorem Fzs.inF {K : PySem.W.Frag} {B : Hp} {x : V} {dx : D} (fx : Fz K B x dx) (hx : flatD dx = true) : ∀ {vs : List V} {ds : List D}, Fzs K B vs ds → ds.all flatD = true → inV x vs = ds.any (fun y => Dt.eqF y dx)
  | _, _, .nil, _ => rfl
  | _, _, .cons h hs, f => by
    rw [List.all_cons, Bool.and_eq_true] at f
    have ih := Fzs.inF fx hx hs f.2
    unfold inV at ih ⊢
    rw [List.any_cons, List.any_cons, ih, h.eqF fx f.1 hx]
def dIn (neg : Bool) : D → D → Option D := fun x s => match s with
  | .lst ds => if flatD x = true ∧ ds.all flatD = true then some (.bl (if neg then !ds.any (fun y => eqF y x) else ds.any (fun y => eqF y x))) else none
  | .tup ds => if flatD x = true ∧ ds.all flatD = true then some (.bl (if neg then !ds.any (fun y => eqF y x) else ds.any (fun y => eqF y x))) else none
  | _ => none
theorem opd_in {neg : Bool} : OpD K (rIn K neg) (dIn neg) := by
  intro x y dx dy d B H Q ex fx fy h g
  cases fy with
  | @lst l ys ds hl fs =>
    have h' : (if flatD dx = true ∧ ds.all flatD = true then some (D.bl (if neg then !ds.any (fun y => eqF y dx) else ds.any (fun y => eqF y dx))) else none) = some d := h
    split at h'
    · rename_i hh
      injection h' with h'; subst h'
      refine ⟨l, ys, rfl, .inl (.inl (.inl (ex _ _ hl))), fx.flat hh.1, fs.flat hh.2, ?_⟩
      rw [fs.inF fx hh.1 hh.2]
      exact g.1 _ (.bl _)
    · cases h'
  | @tup l ys ds hl fs =>
    have h' : (if flatD dx = true ∧ ds.all flatD = true then some (D.bl (if neg then !ds.any (fun y => eqF y dx) else ds.any (fun y => eqF y dx))) else none) = some d := h
    split at h'
    · rename_i hh
      injection h' with h'; subst h'
      refine ⟨l, ys, rfl, .inr (ex.st hl), fx.flat hh.1, fs.flat hh.2, ?_⟩
      rw [fs.inF fx hh.1 hh.2]
      exact g.1 _ (.bl _)
    · cases h'
  | _ => cases h
theorem ev_in (ha : EV X W a f1) (hb : EV X W b f2) (hm : behindInMarks .In b = false := by rfl) : EV X W (.Compare a [.In] [b] pos) (mBin (dIn false) f1 f2) := ev_cmp op_in_seq opd_in ha hb hm
theorem et_notin (ha : EV X W a f1) (hb : EV X W b f2) (hm : behindInMarks .NotIn b = false := by rfl) : ET X W (.Compare a [.NotIn] [b] pos) (mTest (mBin (dIn true) f1 f2)) := et_cmp op_notIn_seq opd_in ha hb hm
def dIx : D → D → Option D
  | .lst ds, .int i => atI ds i
  | .tup ds, .int i => atI ds i
  | .scr ns, .int i => (atI ns i).map D.int
  | .str x, .int i => if tooLong x.length = true then none else (atI x.cps.toList i).map fun c => D.str ⟨#[c]⟩
  | _, _ => none
theorem Fzs.atI {K : PySem.W.Frag} {B : Hp} {vs : List V} {ds : List D} {i : Int} {d : D} (h : Fzs K B vs ds) (e : L2.atI ds i = some d) : ∃ v, L2.atI vs i = some v ∧ Fz K B v d := by
  unfold L2.atI at e ⊢
  rw [h.len]
  cases q : ixN ds.length i with
  | none => rw [q] at e; cases e
  | some j =>
    rw [q] at e
    exact h.get e
theorem opd_ix : OpD K (rIx K) dIx := by
  intro x y dx dy d B H Q ex fx fy h g
  cases fx with
  | @lst l xs ds hl fs =>
    cases fy with
    | int i =>
      obtain ⟨v, h1, h2⟩ := fs.atI (show L2.atI ds i = some d from h)
      exact .inl ⟨l, xs, i, v, rfl, rfl, .inl (.inl (ex _ _ hl)), h1, g.1 _ h2⟩
    | _ => cases h
  | @tup l xs ds hl fs =>
    cases fy with
    | int i =>
      obtain ⟨v, h1, h2⟩ := fs.atI (show L2.atI ds i = some d from h)
      exact .inr (.inl ⟨l, xs, i, v, rfl, rfl, ex.st hl, h1, g.1 _ h2⟩)
    | _ => cases h
  | @scr l ns hl =>
    cases fy with
    | int i =>
      have h' : (L2.atI ns i).map D.int = some d := h
      cases q : L2.atI ns i with
      | none => rw [q] at h'; cases h'
      | some n =>
        rw [q] at h'
        injection h' with h'; subst h'
        refine .inl ⟨l, ns.map V.int, i, .int n, rfl, rfl, ex.sl hl, ?_, g.1 _ (.int n)⟩
        unfold L2.atI at q ⊢
        rw [List.length_map]
        cases q2 : ixN ns.length i with
        | none => rw [q2] at q; cases q
        | some j =>
          rw [q2] at q
          have q' : ns[j]? = some n := q
          show (ns.map V.int)[j]? = some (V.int n)
          rw [List.getElem?_map, q']; rfl
    | _ => cases h
  | str x =>
    cases fy with
    | int i =>
      have h' : (if tooLong x.length = true then none else (L2.atI x.cps.toList i).map fun c => D.str ⟨#[c]⟩) = some d := h
      split at h'
      · cases h'
      · rename_i hz
        cases q : L2.atI x.cps.toList i with
        | none => rw [q] at h'; cases h'
        | some c =>
          rw [q] at h'
          injection h' with h'; subst h'
          exact .inr (.inr ⟨x, i, c, rfl, rfl, notLong hz, q, g.1 _ (.str _)⟩)
    | _ => cases h
  | _ => cases h
theorem ev_item (ha : EV X W a f1) (hb : EV X W b f2) (hs : PlainIx b := by exact fun _ _ => rfl) : EV X W (.Subscript a b pos) (mBin dIx f1 f2) := ev_ix ix_seq opd_ix ha hb hs
end
end Dt
namespace Dt
open PySem PySem.Spec PyProof.Rows L2
structure Quiet0 (P : Program) (base : Heap) (A : Around) : Prop where
  g : A.guards = some []
  s : base.NoSeer
  t : P.given.tree = none
structure Quiet (P : Program) (base : Heap) (A : Around) : Prop extends Quiet0 P base A where
  f : ∃ env l, A.frames = some (env :: l) ∧ env.scope.isGenerator = false ∧ env.scope.isCoroutine = false ∧ env.builtins = builtinsNs ∧ env.globals = mainGlobals
theorem op_fdivB {X : Cx} {k : Nat} (gd : Quiet X.prog X.base X.A) (hr : Room k X.A) (hk : 32 ≤ k) : OpR X (binaryOp .FloorDiv) (rI (fun i j => divOk i j = true) fun i j => .int (i.fdiv j)) := by
  intro pins s σ H x y v u Q I rx ry h
  obtain ⟨i, j, rfl, rfl, hc, q⟩ := h
  obtain ⟨t, rfl⟩ := rx
  obtain ⟨t', rfl⟩ := ry
  obtain ⟨env, l, f1, f2, f3, f4, f5⟩ := gd.f
  have hd := hr.dp
  exact floordiv_int (of_decide_eq_true hc) ⟨.int (i.fdiv j), H, I.tok _, ⟨_, rfl⟩, q⟩ (.inr (PySem.PylongRoom.of I.nolimit (by show X.A.depth + 100 < _; omega) (PySem.SeerAt.of (gd.s.keeps I.bk) gd.t f1 f2 f3 f4 f5)))
theorem ev_fdiv {X : Cx} {W : WX} {k : Nat} {a b : Expr} {pos : Pos} {f1 f2 : M D} (gd : Quiet X.prog X.base X.A) (hr : Room k X.A) (hk : 32 ≤ k) (ha : EV X W a f1) (hb : EV X W b f2) : EV X W (.BinOp a .FloorDiv b pos) (mBin dDiv f1 f2) := ev_op (op_fdivB gd hr hk) (opd_I fun _ _ h => h) ha hb
structure FnG (P : Program) (w : World) (K : PySem.W.Frag) (mg : Str → Option Value) (base : Heap) (k : Nat) (f : Addr) (fd : FuncData) (ps : List Str) (sp : Sp) : Prop where
  many : ∀ vs H Q E, sp vs H Q E → vs.length = ps.length
  go : ∀ {A : Around} {o : List PySem.Env} {s : Shared} {H : Hp} {g : Args} {us : List Value} {vs : List V} {Q : VK} {E : XK}, Quiet0 P base A → Room k A → Env0 P w K mg base A o s H →
    BindsTo s fd g (ps.zip us) → Vals vs us → sp vs H Q E → codeAny (model P w) A (.call (.ref f) g) (CR (L2.CX P w) o P w H s Q E) s
theorem FnG.imp {P : Program} {w : World} {K : PySem.W.Frag} {mg : Str → Option Value} {base : Heap} {k : Nat} {f : Addr} {fd : FuncData} {ps : List Str} {sp tp : Sp} (F : FnG P w K mg base k f fd ps sp) (h : ∀ vs H Q E, tp vs H Q E → sp vs H Q E) : FnG P w K mg base k f fd ps tp :=
  ⟨fun _ _ _ _ z => F.many _ _ _ _ (h _ _ _ _ z), fun q r e b v z => F.go q r e b v (h _ _ _ _ z)⟩
theorem fng_of {P : Program} {w : World} {K : PySem.W.Frag} {mg : Str → Option Value} {base : Heap} {x qual : Str} {st : Stmt} {f : Addr} {fd : FuncData} {N ps : List Str} {k : Nat} {sp : Sp} (F : Fun K x qual st f fd) (S : FnScope N ps (defScope st)) (many : ∀ vs H Q E, sp vs H Q E → vs.length = ps.length)
    (hb : ∀ (c : Value) (A : Around) (o : List PySem.Env) (s : Shared) (H : Hp) (vs : List V) (Q : VK) (E : XK), Quiet P base (A.deeper (envOfC qual (defScope st) s.heap.objs.size f c)) → Room k (A.deeper (envOfC qual (defScope st) s.heap.objs.size f c)) → sp vs H Q E →
      ∃ t, PSs (cxOf (L2.CX P w) P w K mg base N qual (defScope st) f c A o s H E) (defBody st) t ∧ t { nx := fun _ Z => Q .non Z, rt := Q } (start N vs) H) : FnG P w K mg base (k + 1) f fd ps sp := by
  obtain ⟨_, _, _, _, _, _, c, _, _, rfl, look, code⟩ := F.ex
  refine ⟨many, @fun A o s H g us vs Q E quiet room e0 bnd rv spec => ?_⟩
  have kin : K.In s.heap := e0.mod.kin.keeps fun b z q => (e0.bs b z q).1
  have nol : s.heap.NoLimit := e0.mod.nolimit.keeps fun b z q => (e0.bs b z q).1
  have kd : ∀ y ∈ ps.zip us, (defScope st).names.lookup y.1 = some .local ∨ ((defScope st).names.lookup y.1 = some .cell ∧ ((cellsFrom (s.heap.objs.size + 1) (defScope st).names []).lookup y.1).isSome = true) := by
    rintro ⟨n, v⟩ hy
    exact (S.par n (List.of_mem_zip hy).1).imp id fun q => ⟨q, PySem.W.cellsFrom_some _ _ _ (.inl q)⟩
  refine codeAny_call_function room.depth (kin _ _ look) rfl S.co S.gen rfl (PySem.W.codeRec_of kin code) (bnd _ _ _ _ (wpAny_newFunctionEnv_cells S.kind kd ?_))
  rintro _ rfl s1 ic
  refine ⟨nol.keeps ic.toInCall.keep, codeAny_func ?_⟩
  obtain ⟨t, ht, hq⟩ := hb c A o s H vs Q E ⟨⟨quiet.g, quiet.s, quiet.t⟩, _, _, Around.frames_deeper e0.frames, S.gen, S.co, rfl, rfl⟩ (room.deeper _) spec
  refine wpAny_mono (ht.run [] s1 _ H _ (inv_start (CX := L2.CX P w) (E := E) S room.hd e0 (many _ _ _ _ spec) rv ic) hq) ?_ (fun _ _ z => z)
  rintro (_ | _ | _ | u) z hz
  · obtain ⟨_, Z, J, q⟩ := hz
    exact ⟨.non, Z, J.os, J.bare, J.base, J.hok, rfl, q⟩
  · obtain ⟨_, _, _, q⟩ := hz
    exact q.elim
  · obtain ⟨_, _, _, q⟩ := hz
    exact q.elim
  · obtain ⟨v, _, Z, J, r, q⟩ := hz
    exact ⟨v, Z, J.os, J.bare, J.base, J.hok, r, q⟩
section
variable {X : Cx} {k : Nat} {f : Addr} {fd : FuncData} {ps : List Str} {sp : Sp} {E : St → XK} {x : Str} {p pos : Pos} {e : Expr} {es : List Expr} {t : TA}
theorem pe_callG (F : FnG X.prog X.w X.K X.mg X.base k f fd ps sp) (quiet : Quiet X.prog X.base X.A) (room : Room k X.A) (gl : Gl X x) (m : X.mg x = some (.ref f)) (kp : PySem.W.keepIn X.K (.ref f) = true) (bnd : Binds X.K fd ps []) (pass : ∀ σ, PassesAt (L2.CX X.prog X.w) X σ (E σ))
    (args : PA X (e :: es) t) (nd : (x == ("__debug__" : Str)) = false := by decide) (h1 : starEach (e :: es) X.env = (false, eval e X.env) :: starEach es X.env := by exact star_un rfl) (h2 : (backTo pos (starEach es X.env)).any (·.1) = false := by rfl) :
    PE X (.Call (.Name x p) (e :: es) [] pos) (tCallS sp E t) := by
  constructor
  intro pins s σ H Q I h
  refine wpAny_Call_Name_kw (ld_glob I gl m (PySem.W.callWith_K (h₀ := X.base) I.ok.mod.kin kp (thn (args.run pos pins s σ H _ I h) ?_) h1 h2) nd)
  rintro us s1 ⟨vs, H1, J, rv, q⟩
  refine ⟨J.kIn, ?_⟩
  have many : us.length = ps.length := rv.length ▸ F.many _ _ _ _ q
  have b0 := bnd s1 us J.kIn (by simpa using many)
  rw [List.append_nil] at b0
  refine wpAny_call (codeAny_mono (F.go quiet.toQuiet0 room J.env0 b0 rv q) ?_)
  rintro (err | (_ | _ | _ | u)) z hz
  · exact pass σ pins H1 s1 err z J hz
  · exact hz.elim
  · exact hz.elim
  · exact hz.elim
  · exact J.after hz
end
section
variable {P : Program} {w : World} {K : PySem.W.Frag} {mg mb : Str → Option Value} {k : Nat} {fa a : Addr} {fd : FuncData} {x : Str} {sp : Sp} {s : Shared} {vs : List Value} {ns : List Int}
abbrev Done (s : Shared) (r : Result) (z : Shared) : Prop := r = .ok (.ret (.bool true)) ∧ OldK s.heap z.heap ∧ z.os = s.os ∧ AllBare z.gens
abbrev scriptObj (vs : List Value) : Obj := { cls := .type "list", data := .seq vs.toArray }
theorem top_go (kin : K.In s.heap) (glb : s.heap.Ns mainGlobals mg) (blt : s.heap.Ns builtinsNs mb) (boot : ∀ x : Str, x ≠ "__name__" → mb x = bootBuiltins x) (nol : s.heap.NoLimit) (seer : s.heap.NoSeer) (tree : P.given.tree = none) (gens : s.gens = #[])
    (scr : s.heap.get? a = some (scriptObj vs)) (room : Room k callerA) (F : ∀ b : Heap, K.In b → b.Ns mainGlobals mg → FnG P w K mg b k fa fd [x] sp) (bnd : ∀ (s : Shared) (u : Value), BindsTo s fd ⟨[u], []⟩ [(x, u)])
    (H : Hp) (spec : sp [.ref a] H (fun v _ => v = .bl true) fun _ _ _ => False) (only : Only H) (hok : HOk P w H s.heap) (at_ : ∀ b, H b ≠ none → b = a) (out : H a ≠ none → K.lookup a = none) :
    codeAny (model P w) callerA (.call (.ref fa) ⟨[.ref a], []⟩) (Done s) s := by
  have here : ∀ {b : Addr} {z : HO}, H b = some z → b = a := fun {b z} q => at_ b (by rw [q]; exact Option.some_ne_none z)
  have free : ∀ {b : Addr} {z : Obj}, K.lookup b = some z → H b = none := by
    intro b z q
    match e : H b with
    | none => rfl
    | some y =>
      have i := here e
      rw [i] at e q
      rw [out (by rw [e]; exact Option.some_ne_none y)] at q
      cases q
  have dict : ∀ {b : Addr} {m : Str → Option Value}, s.heap.Ns b m → (hidT s.heap H).Ns b m := by
    rintro b m ⟨z, es, ep, q, dz, r⟩
    refine ⟨z, es, ep, hidT_get q ?_, dz, r⟩
    match e : H b with
    | none => rfl
    | some y =>
      rw [here e, scr] at q
      injection q with q
      rw [← q] at dz
      cases dz
  have nos : (hidT s.heap H).NoSeer := by
    obtain ⟨⟨m1, a1, b1⟩, ⟨m2, a2, b2⟩, ⟨m3, a3, b3⟩, m4, bm, ob, a4, b4, c4, d4, e4⟩ := seer
    refine ⟨⟨m1, dict a1, b1⟩, ⟨m2, dict a2, b2⟩, ⟨m3, dict a3, b3⟩, m4, bm, ob, dict a4, b4, hidT_get c4 ?_, d4, e4⟩
    match e : H bm with
    | none => rfl
    | some y =>
      rw [here e, scr] at c4
      injection c4 with c4
      rw [← c4] at d4
      injection d4 with d4
      exact absurd d4 (by decide)
  have kb : K.In (hidT s.heap H) := fun b z q => hidT_get (kin b z q) (free q)
  obtain ⟨mc, n1, n2⟩ := nol
  have e0 : Env0 P w K mg (hidT s.heap H) callerA [] s H :=
    ⟨rfl, ⟨kb, dict glb, ⟨mb, dict blt, boot⟩, ⟨mc, dict n1, n2⟩⟩, fun _ _ q => of_hidT q, Nat.le_of_eq (hidT_size _ _), trivial, (fun b q => absurd (show b ∈ ([] : List Addr) from q) List.not_mem_nil), hok, .of_eq gens⟩
  refine codeAny_mono ((F _ kb (dict glb)).go (us := [.ref a]) (vs := [.ref a]) ⟨rfl, nos, tree⟩ room e0 (bnd s (.ref a)) (.cons rfl .nil) spec) ?_
  rintro (err | (_ | _ | _ | u)) z hz
  · obtain ⟨_, _, _, _, _, _, _, _, _, _, _, _, no⟩ := hz
    exact no.elim
  · exact hz.elim
  · exact hz.elim
  · exact hz.elim
  · obtain ⟨v, Z, os, bare, un, okZ, rv, rfl⟩ := hz
    have : u = Value.bool true := rv
    subst this
    refine ⟨rfl, OldK.of_keep fun b z0 q => ?_, os, bare⟩
    match e : H b with
    | none => exact un.keep b z0 q e (fun m => absurd (show b ∈ ([] : List Addr) from m) List.not_mem_nil) (fun m => absurd (show b ∈ ([] : List Addr) from m) List.not_mem_nil)
    | some y =>
      rcases only b with n | ⟨ob, xs, n⟩
      · rw [n] at e; cases e
      · have g1 := (hok b _ n).1
        have g2 := (okZ b _ (un.frzs b ob _ n)).1
        rw [q] at g1
        injection g1 with g1
        rw [g1]; exact g2
theorem top_call (kin : K.In s.heap) (glb : s.heap.Ns mainGlobals mg) (blt : s.heap.Ns builtinsNs mb) (boot : ∀ x : Str, x ≠ "__name__" → mb x = bootBuiltins x) (nol : s.heap.NoLimit) (seer : s.heap.NoSeer) (tree : P.given.tree = none) (gens : s.gens = #[])
    (scr : s.heap.get? a = some (scriptObj vs)) (inz : IntsAre vs ns) (few : ns.length ≤ sizeLine) (room : Room k callerA) (F : ∀ b : Heap, K.In b → b.Ns mainGlobals mg → FnG P w K mg b k fa fd [x] sp) (bnd : ∀ (s : Shared) (u : Value), BindsTo s fd ⟨[u], []⟩ [(x, u)])
    (spec : ∀ H : Hp, SqL K H a (ns.map V.int) → sp [.ref a] H (fun v _ => v = .bl true) fun _ _ _ => False) :
    codeAny (model P w) callerA (.call (.ref fa) ⟨[.ref a], []⟩) (Done s) s := by
  have rv := vals_ints inz
  have many := inz.length
  match e : K.lookup a with
  | some z =>
    have q := kin a z e
    rw [scr] at q
    injection q with q
    subst q
    refine top_go kin glb blt boot nol seer tree gens scr room F bnd (fun _ => none) (spec _ (.inr ⟨_, vs.toArray, _, e, rfl, rfl, rfl, ?_, ?_⟩)) (fun _ => .inl rfl) (fun _ _ z => nomatch z) (fun _ z => (z rfl).elim) (fun z => (z rfl).elim)
    · rw [List.size_toArray, many]; exact few
    · simpa using rv
  | none =>
    have yes : ∀ {b : Addr}, b = a → (fun b => if b = a then some (HO.frz (scriptObj vs) (.lst (ns.map V.int))) else none) b = some (HO.frz (scriptObj vs) (.lst (ns.map V.int))) := fun q => if_pos q
    have nay : ∀ {b : Addr}, b ≠ a → (fun b => if b = a then some (HO.frz (scriptObj vs) (.lst (ns.map V.int))) else none) b = none := fun q => if_neg q
    generalize (fun b => if b = a then some (HO.frz (scriptObj vs) (.lst (ns.map V.int))) else none) = H at yes nay
    have isA : ∀ b, H b ≠ none → b = a := fun b z => Classical.byContradiction fun n => z (nay n)
    refine top_go kin glb blt boot nol seer tree gens scr room F bnd H (spec H (.inl (.inr ⟨_, yes rfl⟩))) (fun b => ?_) (fun b z q => ?_) isA (fun _ => e)
    · by_cases n : b = a
      · exact .inr ⟨_, _, yes n⟩
      · exact .inl (nay n)
    · have n : b = a := isA b (by rw [q]; exact Option.some_ne_none z)
      rw [yes n] at q
      injection q with q
      subst q; subst n
      exact ⟨scr, by rw [List.length_map]; exact few, vs, _, rv, scr⟩
end
end Dt
namespace Dt
open PySem PySem.Spec PyProof.Rows L2
structure Cr (A : Addr → Prop) (B H B' H' : Hp) : Prop where
  ex : Ex B' H'
  exB : Ex B B'
  kept : ∀ a o, H a = some o → ¬ A a → H' a = some o
  hid : ∀ a, B a = none → Ct H a → ¬ A a → B' a = none
  there : ∀ a, H a ≠ none → H' a ≠ none
theorem Cr.keeps {K : PySem.W.Frag} {F : Fr} {ρ : Env} {σ : St} {B H B' H' : Hp} {A : Addr → Prop} (L : Lv K F ρ σ B H) (c : Cr A B H B' H') (no : ∀ b, A b → ¬ OwS K B H ρ σ b) : ∀ a, OwS K B H ρ σ a → B' a = none ∧ ∀ o, H a = some o → H' a = some o := fun a w =>
  ⟨c.hid a (L.hidOw w).1 (L.hidOw w).2 fun z => no a z w, fun o q => c.kept a o q fun z => no a z w⟩
theorem Lv.callN {K : PySem.W.Frag} {F : Fr} {ρ : Env} {σ : St} {B H B' H' : Hp} {A : Addr → Prop} (L : Lv K F ρ σ B H) (c : Cr A B H B' H') (hA : ∀ b, A b → F.A b ∨ F.H0 b = none) (no : ∀ b, A b → ¬ OwS K B H ρ σ b) : Lv K F ρ σ B' H' := by
  refine L.move c.ex c.exB (c.keeps L no) (fun a o e n => ?_) (fun a e => c.there a (L.there a e)) (fun a e n k => ?_)
  · refine c.kept a o (L.kept a o e n) fun z => ?_
    rcases hA a z with q | q
    · exact n q
    · rw [q] at e; cases e
  · refine c.hid a (L.hid a e n k) (n.to fun o q => L.kept a o q k) fun z => ?_
    rcases hA a z with q | q
    · exact k q
    · exact n.ne q
inductive Rf where
  | ok (d : D) (o : Ob) (out : D)
  | rz (c : Str)
  | fail
inductive Args (K : PySem.W.Frag) (B H : Hp) (a : Addr) : Option Nat → List V → List D → Prop
  | nil : Args K B H a none [] []
  | fz {v : V} {d : D} {vs : List V} {ds : List D} : Fz K B v d → Args K B H a none vs ds → Args K B H a none (v :: vs) (d :: ds)
  | io {d : D} {vs : List V} {ds : List D} : Ow K B H a d → Args K B H a none vs ds → Args K B H a (some 0) (.ref a :: vs) (d :: ds)
  | fzS {j : Nat} {v : V} {d : D} {vs : List V} {ds : List D} : Fz K B v d → Args K B H a (some j) vs ds → Args K B H a (some (j + 1)) (v :: vs) (d :: ds)
def initS : Option Nat → List D → List Slot
  | _, [] => []
  | none, d :: r => .fz d :: initS none r
  | some 0, d :: r => .io d :: initS none r
  | some (j + 1), d :: r => .fz d :: initS (some j) r
def initE (m : Option Nat) (n : Nat) (ds : List D) : Env := initS m ds ++ List.replicate (n - ds.length) .un
def fin (m : Option Nat) (d : D) (o : Ob) (ρ : Env) : Rf := match m with
  | none => .ok d o .non
  | some j => match ρ[j]? with
    | some (.io out) => .ok d o out
    | _ => .fail
def runF (m : Option Nat) (n : Nat) (fb : M Fl) (ds : List D) : Rf := match fb (initE m n ds) with
  | .ok .nx ρ => fin m .non .ff ρ
  | .ok (.rt d o) ρ => fin m d o ρ
  | .rz c _ => .rz c
  | _ => .fail
def frP (m : Option Nat) (a : Addr) : List (Option Addr) := match m with
  | none => []
  | some j => List.replicate j none ++ [some a]
def ioA (m : Option Nat) (a : Addr) (b : Addr) : Prop := m ≠ none ∧ b = a
def frOf (m : Option Nat) (a : Addr) (B H : Hp) : Fr := ⟨B, H, ioA m a, frP m a⟩
def RV (K : PySem.W.Frag) (H B' H' : Hp) (a : Addr) (v : V) (d : D) : Ob → Prop
  | .tt => ∃ p, v = .ref p ∧ Ow K B' H' p d ∧ H p = none
  | .ff => Fz K B' v d
  | .dp m => ∃ S, Tr K B' H' m v d S ∧ S.Nodup ∧ ∀ p ∈ S, H p = none
  | .al => v = .ref a
def spF (K : PySem.W.Frag) (mg : Str → Option Value) (n : Nat) (m : Option Nat) (g : List D → Rf) : Sp := fun vs H Q E => ∃ (B : Hp) (ds : List D) (a : Addr), Ex B H ∧ Args K B H a m vs ds ∧ vs.length = n ∧
  match g ds with
  | .ok d o out => ∀ v B' H', Cr (ioA m a) B H B' H' → (m ≠ none → Ow K B' H' a out) → RV K H B' H' a v d o → Q v H'
  | .rz c => ∀ B' H', Cr (ioA m a) B H B' H' → E ((mg c).getD .none) none H'
  | .fail => False
section
variable {K : PySem.W.Frag} {B H : Hp} {a : Addr}
theorem Args.len : ∀ {m : Option Nat} {vs : List V} {ds : List D}, Args K B H a m vs ds → vs.length = ds.length
  | _, _, _, .nil => rfl
  | _, _, _, .fz _ r => by rw [List.length_cons, List.length_cons, Args.len r]
  | _, _, _, .io _ r => by rw [List.length_cons, List.length_cons, Args.len r]
  | _, _, _, .fzS _ r => by rw [List.length_cons, List.length_cons, Args.len r]
theorem initS_len : ∀ (m : Option Nat) (ds : List D), (initS m ds).length = ds.length
  | none, [] => rfl
  | some 0, [] => rfl
  | some (_ + 1), [] => rfl
  | none, d :: r => by show (initS none r).length + 1 = _; rw [initS_len none r]; rfl
  | some 0, d :: r => by show (initS none r).length + 1 = _; rw [initS_len none r]; rfl
  | some (j + 1), d :: r => by show (initS (some j) r).length + 1 = _; rw [initS_len (some j) r]; rfl
theorem Args.getF : ∀ {m : Option Nat} {vs : List V} {ds : List D} {i : Nat} {d : D}, Args K B H a m vs ds → (initS m ds)[i]? = some (.fz d) → ∃ v, vs[i]? = some v ∧ Fz K B v d
  | _, _, _, _, _, .nil, e => by simp [initS] at e
  | _, _, _, 0, _, .fz f _, e => by
    injection (show some (Slot.fz _) = some (Slot.fz _) from e) with e; injection e with e; subst e; exact ⟨_, rfl, f⟩
  | _, _, _, i + 1, d, .fz _ r, e => Args.getF (i := i) (d := d) r e
  | _, _, _, 0, _, .io _ _, e => by injection (show some (Slot.io _) = some (Slot.fz _) from e) with e; cases e
  | _, _, _, i + 1, d, .io _ r, e => Args.getF (i := i) (d := d) r e
  | _, _, _, 0, _, .fzS f _, e => by
    injection (show some (Slot.fz _) = some (Slot.fz _) from e) with e; injection e with e; subst e; exact ⟨_, rfl, f⟩
  | _, _, _, i + 1, d, .fzS _ r, e => Args.getF (i := i) (d := d) r e
theorem Args.getO : ∀ {m : Option Nat} {vs : List V} {ds : List D} {i : Nat} {s : Slot}, Args K B H a m vs ds → (initS m ds)[i]? = some s → owned s = true → m = some i ∧ vs[i]? = some (.ref a) ∧ Ow K B H a s.dat ∧ ∃ d, s = .io d
  | _, _, _, _, _, .nil, e, _ => by simp [initS] at e
  | _, _, _, 0, _, .fz f _, e, w => by injection (show some (Slot.fz _) = some _ from e) with e; subst e; cases w
  | _, _, _, i + 1, s, .fz _ r, e, w => by obtain ⟨h, _⟩ := Args.getO (i := i) (s := s) r e w; cases h
  | _, _, _, 0, _, .io f _, e, w => by injection (show some (Slot.io _) = some _ from e) with e; subst e; exact ⟨rfl, rfl, f, _, rfl⟩
  | _, _, _, i + 1, s, .io _ r, e, w => by obtain ⟨h, _⟩ := Args.getO (i := i) (s := s) r e w; cases h
  | _, _, _, 0, _, .fzS f _, e, w => by injection (show some (Slot.fz _) = some _ from e) with e; subst e; cases w
  | _, _, _, i + 1, s, .fzS _ r, e, w => by
    obtain ⟨h, q⟩ := Args.getO (i := i) (s := s) r e w
    injection h with h; subst h
    exact ⟨rfl, q⟩
theorem lv_start {m : Option Nat} {vs : List V} {ds : List D} {N : List Str} (A : Args K B H a m vs ds) (ex : Ex B H) (hN : vs.length ≤ N.length) :
    Lv K (frOf m a B H) (initE m N.length ds) (L2.start N vs) B H := by
  have hl := A.len
  have hs : ∀ {i : Nat} {s : Slot}, (initE m N.length ds)[i]? = some s → s = .un ∨ (initS m ds)[i]? = some s ∧ i < vs.length := fun {i s} e => by
    unfold initE at e
    by_cases h : i < (initS m ds).length
    · rw [List.getElem?_append_left h] at e
      exact .inr ⟨e, by rw [initS_len] at h; omega⟩
    · rw [List.getElem?_append_right (by omega)] at e
      exact .inl (List.eq_of_mem_replicate (List.mem_of_getElem? e))
  have ht : ∀ {i : Nat} {v : V}, vs[i]? = some v → (L2.start N vs)[i]? = some (some v) := fun {i v} e => by
    unfold L2.start
    have h := (List.getElem?_eq_some_iff.mp e).1
    rw [List.getElem?_append_left (by rw [List.length_map]; exact h), List.getElem?_map, e]; rfl
  refine ⟨ex, fun _ _ h _ => h, fun _ h => h, Ex.refl _, fun _ h _ _ => h, fun i d e => ?_, fun i s e w => ?_, fun i d e => ?_, fun i j s t v w S T b e1 e2 q1 q2 f1 f2 m1 m2 => ?_, ?_⟩
  · rcases hs e with z | ⟨e, _⟩
    · cases z
    · obtain ⟨v, e1, f⟩ := A.getF e
      exact ⟨v, ht e1, f⟩
  · rcases hs e with z | ⟨e, _⟩
    · subst z; cases w
    · obtain ⟨h1, h2, h3, d, rfl⟩ := A.getO e w
      exact ⟨.ref a, [a], ht h2, ⟨a, rfl, h3, rfl⟩, fun b hb => by rw [List.mem_singleton.mp hb]; exact .inl ⟨by rw [h1]; simp, rfl⟩⟩
  · rcases hs e with z | ⟨e, _⟩
    · cases z
    · obtain ⟨h1, h2, h3, _⟩ := A.getO e rfl
      subst h1
      refine ⟨a, ?_, ht h2⟩
      show (List.replicate i none ++ [some a])[i]? = some (some a)
      rw [List.getElem?_append_right (by rw [List.length_replicate]; omega), List.length_replicate, Nat.sub_self]; rfl
  · rcases hs e1 with z | ⟨e1, _⟩
    · subst z; exact f1.elim
    · rcases hs e2 with z | ⟨e2, _⟩
      · subst z; exact f2.elim
      · obtain ⟨h1, _⟩ := A.getO e1 f1.owned
        obtain ⟨h2, _⟩ := A.getO e2 f2.owned
        rw [h1] at h2; injection h2
  · show (initS m ds ++ List.replicate (N.length - ds.length) Slot.un).length = (vs.map some ++ List.replicate (N.length - vs.length) none).length
    rw [List.length_append, List.length_append, initS_len, List.length_replicate, List.length_replicate, List.length_map, hl]
end
theorem fn_def {P : Program} {w : World} {K : PySem.W.Frag} {mg : Str → Option Value} {base : Heap} {x qual : Str} {st : Stmt} {f : Addr} {fd : FuncData} {N ps : List Str} {k : Nat} {m : Option Nat} {fb : M Fl} (F : Fun K x qual st f fd) (S : FnScope N ps (defScope st)) (hps : ps.length ≤ N.length)
    (hbody : ∀ (cdv : Value) (A : Around) (outer : List PySem.Env) (s : Shared) (H : Hp) (E : XK), Quiet P base (A.deeper (envOfC qual (defScope st) s.heap.objs.size f cdv)) → Room k (A.deeper (envOfC qual (defScope st) s.heap.objs.size f cdv)) →
      SVs (cxOf (L2.CX P w) P w K mg base N qual (defScope st) f cdv A outer s H E) (fun cls d _ H => E cls d H) (defBody st) fb) : FnG P w K mg base (k + 1) f fd ps (spF K mg ps.length m (runF m N.length fb)) := by
  refine fng_of F S (fun vs H Q E h => by obtain ⟨_, _, _, _, _, h, _⟩ := h; exact h) (fun cdv A outer s H vs Q E gd hr h => ?_)
  refine ⟨_, pss_wss, ?_⟩
  obtain ⟨B, ds, a, ex, ar, hl, h⟩ := h
  have L := lv_start (N := N) ar ex (by omega)
  have done : ∀ {d : D} {o : Ob} {ρ' : Env} {v : V} {σ' : St} {B' H' : Hp}, (match fin m d o ρ' with
      | .ok d o out => ∀ v B' H', Cr (ioA m a) B H B' H' → (m ≠ none → Ow K B' H' a out) → RV K H B' H' a v d o → Q v H'
      | .rz c => ∀ B' H', Cr (ioA m a) B H B' H' → E ((mg c).getD .none) none H'
      | .fail => False) → Lv K (frOf m a B H) ρ' σ' B' H' → VO K (frOf m a B H) ρ' σ' B' H' v d o → Q v H' := by
    intro d o ρ' v σ' B' H' hq L' vo
    have cr : Cr (ioA m a) B H B' H' := ⟨L'.ex, L'.exB, L'.kept, L'.hid, L'.there⟩
    cases m with
    | none =>
      refine hq v B' H' cr (fun z => absurd rfl z) ?_
      cases o with
      | ff => exact vo
      | tt =>
        obtain ⟨p, e, ow, g, no⟩ := vo
        refine ⟨p, e, ow, ?_⟩
        rcases g with g | g
        · exact absurd rfl g.1
        · exact g
      | dp mk =>
        obtain ⟨S, t, nd, g⟩ := vo
        refine ⟨S, t, nd, fun p hp => ?_⟩
        rcases (g p hp).1 with g | g
        · exact absurd rfl g.1
        · exact g
      | al =>
        obtain ⟨j, b, p1, _⟩ := vo
        have p1' : ([] : List (Option Addr))[j]? = some (some b) := p1
        simp at p1'
    | some j =>
      unfold fin at hq
      cases q : ρ'[j]? with
      | none => simp only [q] at hq
      | some sl =>
        cases sl with
        | io out =>
          simp only [q] at hq
          obtain ⟨b, e1, w1, _⟩ := L'.ow j _ q rfl
          have pa : ∀ {j' : Nat} {b' : Addr}, (frP (some j) a)[j']? = some (some b') → b' = a := fun {j' b'} p1 => by
            have p1' : (List.replicate j none ++ [some a])[j']? = some (some b') := p1
            have := List.mem_of_getElem? p1'
            rcases List.mem_append.mp this with h | h
            · exact nomatch (List.eq_of_mem_replicate h)
            · injection List.mem_singleton.mp h
          obtain ⟨b', p1, e2⟩ := L'.io j _ q
          have hb : b' = a := pa p1
          have hb2 : b = b' := by rw [e1] at e2; injection e2 with z; injection z with z; injection z
          subst hb2; subst hb
          refine hq v B' H' cr (fun _ => w1) ?_
          have isO : OwS K B' H' ρ' σ' b := .mk q rfl e1 w1
          cases o with
          | ff => exact vo
          | tt =>
            obtain ⟨p, e, ow, g, no⟩ := vo
            refine ⟨p, e, ow, ?_⟩
            rcases g with g | g
            · obtain ⟨_, rfl⟩ := g
              exact absurd isO no
            · exact g
          | dp mk =>
            obtain ⟨S, t, nd, g⟩ := vo
            refine ⟨S, t, nd, fun p hp => ?_⟩
            rcases (g p hp).1 with h | h
            · obtain ⟨_, rfl⟩ := h
              exact absurd isO (g p hp).2
            · exact h
          | al =>
            obtain ⟨j', b', p1, rfl⟩ := vo
            rw [pa p1]; rfl
        | un => simp only [q] at hq
        | fz _ => simp only [q] at hq
        | ow _ => simp only [q] at hq
        | dp _ _ => simp only [q] at hq
  refine hbody cdv A outer s H E gd hr _ _ _ B H _ L ?_
  unfold runF at h
  cases q : fb (initE m N.length ds) with
  | ok fl ρ' =>
    rw [q] at h
    cases fl with
    | nx => exact fun σ' B' H' e' L' => done (v := .non) h L' (show Fz K B' V.non D.non from .non)
    | rt d o => exact fun v σ' B' H' e' L' vo => done h L' vo
    | bk => exact h.elim
    | ct => exact h.elim
  | rz c ρ' =>
    rw [q] at h
    exact fun σ' B' H' e' L' => h B' H' ⟨L'.ex, L'.exB, L'.kept, L'.hid, L'.there⟩
  | fail => rw [q] at h; exact h.elim
inductive AV where
  | v (d : D)
  | s (i : Nat)
inductive AOks (K : PySem.W.Frag) (B : Hp) (σ : St) : List V → List AV → Prop
  | nil : AOks K B σ [] []
  | v {x : V} {d : D} {xs : List V} {avs : List AV} : Fz K B x d → AOks K B σ xs avs → AOks K B σ (x :: xs) (.v d :: avs)
  | s {x : V} {i : Nat} {xs : List V} {avs : List AV} : σ[i]? = some (some x) → AOks K B σ xs avs → AOks K B σ (x :: xs) (.s i :: avs)
theorem AOks.mono {K : PySem.W.Frag} {B B' : Hp} {σ : St} (e : Ex B B') : ∀ {xs : List V} {avs : List AV}, AOks K B σ xs avs → AOks K B' σ xs avs
  | _, _, .nil => .nil
  | _, _, .v f r => .v (f.mono e) (AOks.mono e r)
  | _, _, .s f r => .s f (AOks.mono e r)
def EX (X : Cx) (W : WX) (es : List Expr) (f : M (List AV)) : Prop := ∀ (F : Fr) (ρ : Env) (σ : St) (B H : Hp) (Q : List V → Hp → Prop), Lv X.K F ρ σ B H →
  Post X W F σ B (f ρ) (fun avs _ B' H' => ∀ vs, AOks X.K B' σ vs avs → Q vs H') → wa X es σ H Q
def xNil : M (List AV) := M.pure []
def xV (f : M D) (g : M (List AV)) : M (List AV) := M.bind f fun x => M.bind g fun xs => M.pure (.v x :: xs)
def xS (i : Nat) (g : M (List AV)) : M (List AV) := M.bind (fun ρ => match ρ[i]? with
  | some (.ow _) => .ok () ρ
  | some (.io _) => .ok () ρ
  | _ => .fail) fun _ => M.bind g fun xs => M.pure (.s i :: xs)
section
variable {X : Cx} {W : WX} {e : Expr} {es : List Expr} {pos : Pos}
theorem ex_nil : EX X W [] xNil := fun F ρ σ B H Q L P => PA.wa pa_nil (P B H (Ex.refl _) L [] .nil)
theorem ex_v {f : M D} {g : M (List AV)} (ha : EV X W e f) (hr : EX X W es g) (hs : starEach (e :: es) X.env = (false, eval e X.env) :: starEach es X.env := by exact star_un rfl) : EX X W (e :: es) (xV f g) := by
  intro F ρ σ B H Q L P
  refine PA.wa (pa_cons pe_we pa_wa hs) ?_
  refine ha F ρ σ B H _ L ((Post.bind P).imp fun dx ρ1 B1 H1 e1 L1 P1 x fx => ?_)
  refine hr F ρ1 σ B1 H1 _ L1 ((Post.bind P1).imp fun ds ρ2 B2 H2 e2 L2 P2 xs fs => ?_)
  exact P2 B2 H2 (Ex.refl _) L2 _ (.v (fx.mono e2) fs)
theorem ex_s (i : Nat) {x : Str} {p : Pos} {g : M (List AV)} (hr : EX X W es g) (hN : X.N[i]? = some x := by rfl) (hv : Vis X.env.scope x := by first | exact Or.inl rfl | exact Or.inr (Or.inl rfl) | exact Or.inr (Or.inr rfl)) (hd : (x == ("__debug__" : Str)) = false := by decide)
    (hcd : (x == ("__classdict__" : Str)) = false := by decide) (hs : starEach (.Name x p :: es) X.env = (false, eval (.Name x p) X.env) :: starEach es X.env := by rfl) : EX X W (.Name x p :: es) (xS i g) := by
  intro F ρ σ B H Q L P
  refine PA.wa (pa_cons (pe_var hN hv hd hcd) pa_wa hs) ?_
  have P1 := Post.bind P
  have go : ∀ {v : V}, σ[i]? = some (some v) → Post X W F σ B ((M.bind g fun xs => M.pure (.s i :: xs)) ρ) (fun avs _ B' H' => ∀ vs, AOks X.K B' σ vs avs → Q vs H') → (tVar i σ H fun x H1 => wa X es σ H1 fun xs H2 => Q (x :: xs) H2) := by
    intro v ev P2
    refine ⟨v, ev, ?_⟩
    refine hr F ρ σ B H _ L ((Post.bind P2).imp fun ds ρ2 B2 H2 e2 L2 P2 xs fs => ?_)
    exact P2 B2 H2 (Ex.refl _) L2 _ (.s ev fs)
  cases q : ρ[i]? with
  | none => simp only [q] at P1; exact P1.elim
  | some sl =>
    cases sl with
    | ow d =>
      simp only [q] at P1
      obtain ⟨a, e1, _⟩ := L.ow i _ q rfl
      exact go e1 (P1 B H (Ex.refl _) L)
    | io d =>
      simp only [q] at P1
      obtain ⟨a, e1, _⟩ := L.ow i _ q rfl
      exact go e1 (P1 B H (Ex.refl _) L)
    | un => simp only [q] at P1; exact P1.elim
    | fz d => simp only [q] at P1; exact P1.elim
    | dp m d => simp only [q] at P1; exact P1.elim
def contS : Option Slot → Option D
  | some (.ow d) => some d
  | some (.io d) => some d
  | _ => none
def setup (ρ : Env) : Option Nat → List AV → Option (List D)
  | none, [] => some []
  | none, .v d :: r => (setup ρ none r).map (d :: ·)
  | some 0, .s i :: r => (contS ρ[i]?).bind fun d => (setup ρ none r).map (d :: ·)
  | some (j + 1), .v d :: r => (setup ρ (some j) r).map (d :: ·)
  | _, _ => none
def slotOf : Option Nat → List AV → Option Nat
  | some 0, .s i :: _ => some i
  | some (j + 1), _ :: r => slotOf (some j) r
  | _, _ => none
def reslot (s : Option Slot) (d : D) : Slot := match s with
  | some (.ow _) => .ow d
  | some (.io _) => .io d
  | _ => .un
def mCallF (m : Option Nat) (g : List D → Rf) (f : M (List AV)) : M (D × Ob) := M.bind f fun avs ρ => match setup ρ m avs with
  | none => .fail
  | some ds => match g ds with
    | .ok d o out => if o.ok = true then .ok (d, o) (match slotOf m avs with
      | none => ρ
      | some i => ρ.set i (reslot ρ[i]? out)) else .fail
    | .rz c => .rz c (match slotOf m avs with
      | none => ρ
      | some i => ρ.set i .un)
    | .fail => .fail
theorem setup_none {K : PySem.W.Frag} {B H : Hp} {σ : St} {ρ : Env} {a : Addr} : ∀ {vs : List V} {avs : List AV} {ds : List D}, AOks K B σ vs avs → setup ρ none avs = some ds → Args K B H a none vs ds
  | _, _, _, .nil, h => by injection h with h; subst h; exact .nil
  | _, _, _, .v f r, h => by
    have h' : (setup ρ none _).map (_ :: ·) = some _ := h
    cases q : setup ρ none _ with
    | none => rw [q] at h'; cases h'
    | some ds => rw [q] at h'; injection h' with h'; subst h'; exact .fz f (setup_none r q)
  | _, _, _, .s _ _, h => by cases (show (none : Option (List D)) = some _ from h)
theorem slotOf_none : ∀ (avs : List AV), slotOf none avs = none
  | [] => rfl
  | .v _ :: _ => rfl
  | .s _ :: _ => rfl
theorem setup_some {K : PySem.W.Frag} {F : Fr} {B H : Hp} {σ : St} {ρ : Env} (L : Lv K F ρ σ B H) : ∀ {j : Nat} {vs : List V} {avs : List AV} {ds : List D}, AOks K B σ vs avs → setup ρ (some j) avs = some ds →
    ∃ i s a, slotOf (some j) avs = some i ∧ ρ[i]? = some s ∧ flat s = true ∧ σ[i]? = some (some (.ref a)) ∧ Args K B H a (some j) vs ds
  | 0, _, _, _, .s (x := x) (i := i) f r, h => by
    have h' : (contS ρ[i]?).bind (fun d => (setup ρ none _).map (d :: ·)) = some _ := h
    cases q : contS ρ[i]? with
    | none => rw [q] at h'; cases h'
    | some d =>
      rw [q] at h'
      have h2 : (setup ρ none _).map (d :: ·) = some _ := h'
      cases q2 : setup ρ none _ with
      | none => rw [q2] at h2; cases h2
      | some ds =>
        rw [q2] at h2; injection h2 with h2; subst h2
        cases q3 : ρ[i]? with
        | none => rw [q3] at q; cases q
        | some s =>
          rw [q3] at q
          have ho : flat s = true ∧ s.dat = d := by
            cases s with
            | ow d' => injection q with q; exact ⟨rfl, q⟩
            | io d' => injection q with q; exact ⟨rfl, q⟩
            | un => cases q
            | fz d' => cases q
            | dp _ d' => cases q
          obtain ⟨a, e1, w, g⟩ := L.ow i s q3 ho.1
          rw [e1] at f
          injection f with f; injection f with f; subst f
          rw [ho.2] at w
          exact ⟨i, s, a, rfl, q3, ho.1, e1, .io w (setup_none r q2)⟩
  | j + 1, _, _, _, .v (d := d) f r, h => by
    have h' : (setup ρ (some j) _).map (d :: ·) = some _ := h
    cases q : setup ρ (some j) _ with
    | none => rw [q] at h'; cases h'
    | some ds =>
      rw [q] at h'; injection h' with h'; subst h'
      obtain ⟨i, s, a, h1, h2, h3, h4, h5⟩ := setup_some L r q
      exact ⟨i, s, a, h1, h2, h3, h4, .fzS f h5⟩
  | 0, _, _, _, .nil, h => by cases (show (none : Option (List D)) = some _ from h)
  | 0, _, _, _, .v _ _, h => by cases (show (none : Option (List D)) = some _ from h)
  | _ + 1, _, _, _, .nil, h => by cases (show (none : Option (List D)) = some _ from h)
  | _ + 1, _, _, _, .s _ _, h => by cases (show (none : Option (List D)) = some _ from h)
theorem call_sp {F : Fr} {ρ : Env} {σ : St} {B H : Hp} {Q : VK} {m : Option Nat} {g : List D → Rf} {n : Nat} {avs : List AV} {vs : List V} (L : Lv X.K F ρ σ B H) (fs : AOks X.K B σ vs avs) (hn : vs.length = n)
    (P : Post X W F σ B ((match setup ρ m avs with
      | none => Rs.fail
      | some ds => match g ds with
        | .ok d o out => if o.ok = true then .ok (d, o) (match slotOf m avs with | none => ρ | some i => ρ.set i (reslot ρ[i]? out)) else .fail
        | .rz c => .rz c (match slotOf m avs with | none => ρ | some i => ρ.set i .un)
        | .fail => .fail) : Rs (D × Ob)) (fun p ρ' B' H' => ∀ v, VO X.K F ρ' σ B' H' v p.1 p.2 → Q v H')) : spF X.K X.mg n m g vs H Q (WE W σ) := by
  cases q : setup ρ m avs with
  | none => rw [q] at P; exact P.elim
  | some ds =>
    rw [q] at P
    cases m with
    | none =>
      rw [slotOf_none] at P
      refine ⟨B, ds, 0, L.ex, setup_none fs q, hn, ?_⟩
      have hA : ∀ b, ioA none 0 b → F.A b ∨ F.H0 b = none := fun b z => absurd rfl z.1
      have hO : ∀ b, ioA none 0 b → ¬ OwS X.K B H ρ σ b := fun b z => absurd rfl z.1
      cases q2 : g ds with
      | ok d o out =>
        simp only [q2] at P ⊢
        intro v B' H' cr _ rv
        have L' := L.callN cr hA hO
        have no : ∀ {p : Addr}, H p = none → ¬ OwS X.K B' H' ρ σ p := fun {p} n0 z => (L.hidOw (z.back L cr.exB (cr.keeps L hO))).2.ne n0
        split at P
        · rename_i ok
          refine P B' H' cr.exB L' v ?_
          cases o with
          | ff => exact rv
          | tt =>
            obtain ⟨p, e, w, n0⟩ := rv
            exact ⟨p, e, w, .inr (L.free n0), no n0⟩
          | dp mk =>
            obtain ⟨S, t, nd, n0⟩ := rv
            exact ⟨S, t, nd, fun p hp => ⟨.inr (L.free (n0 p hp)), no (n0 p hp)⟩⟩
          | al => cases ok
        · exact P.elim
      | rz c =>
        simp only [q2] at P ⊢
        exact fun B' H' cr => P B' H' cr.exB (L.callN cr hA hO)
      | fail => simp only [q2] at P; exact P.elim
    | some j =>
      obtain ⟨i, s, a, hsl, hs, ho, hsig, ar⟩ := setup_some L fs q
      rw [hsl] at P
      refine ⟨B, ds, a, L.ex, ar, hn, ?_⟩
      obtain ⟨v0, S0, q', f0, g0, no0, L1⟩ := L.take hs (flat_owned ho)
      rw [hsig] at q'; injection q' with q'; injection q' with q'; subst q'
      obtain ⟨w0, rfl⟩ := f0.one ho
      have g0 := g0 a (by simp)
      have na := no0 a (by simp)
      have hA : ∀ b, ioA (some j) a b → F.A b ∨ F.H0 b = none := fun b z => by rw [z.2]; exact g0
      have hO : ∀ b, ioA (some j) a b → ¬ OwS X.K B H (ρ.set i .un) σ b := fun b z => by rw [z.2]; exact na
      cases q2 : g ds with
      | ok d o out =>
        simp only [q2] at P ⊢
        intro v B' H' cr wo rv
        have L2 := L1.callN cr hA hO
        have bk : ∀ {p : Addr}, OwS X.K B' H' (ρ.set i .un) σ p → OwS X.K B H (ρ.set i .un) σ p := fun {p} z => z.back L1 cr.exB (cr.keeps L1 hO)
        have ht : flat (reslot ρ[i]? out) = true ∧ (reslot ρ[i]? out).dat = out := by
          rw [hs]
          cases s with
          | ow d' => exact ⟨rfl, rfl⟩
          | io d' => exact ⟨rfl, rfl⟩
          | un => cases ho
          | fz d' => cases ho
          | dp _ d' => cases ho
        have L3 := L2.own (i := i) (t := reslot ρ[i]? out) (v := .ref a) (S := [a]) hsig (.mk (by rw [ht.2]; exact wo (by simp)) ht.1) (by simpa using g0) (fun b hb h => by
              rw [List.set_set] at h
              rw [List.mem_singleton.mp hb] at h
              exact na (bk h)) (fun d' z => by
            rw [hs] at z
            cases s with
            | ow d' => cases z
            | io d'' =>
              obtain ⟨b, p1, p2⟩ := L.io i d'' hs
              rw [hsig] at p2
              obtain rfl : a = b := by injection p2 with z; injection z with z; injection z
              exact ⟨a, rfl, p1⟩
            | un => cases ho
            | fz d' => cases ho
            | dp _ d' => cases ho)
        rw [List.set_set] at L3
        have no : ∀ {p : Addr}, H p = none → ¬ OwS X.K B' H' (ρ.set i (reslot ρ[i]? out)) σ p := fun {p} n0 ⟨j', s', v', S', e1, q1, f1, m1⟩ => by
          rcases get_set e1 with ⟨rfl, z, l⟩ | ⟨n, e1⟩
          · rw [hsig] at q1; injection q1 with q1; injection q1 with q1; subst q1
            rw [z] at f1
            obtain ⟨_, rfl⟩ := f1.one ht.1
            rw [List.mem_singleton.mp m1] at n0
            exact w0.there.ne n0
          · exact (L1.hidOw (bk ⟨j', s', v', S', by rw [List.getElem?_set_ne (Ne.symm n)]; exact e1, q1, f1, m1⟩)).2.ne n0
        split at P
        · rename_i ok
          refine P B' H' cr.exB L3 v ?_
          cases o with
          | ff => exact rv
          | tt =>
            obtain ⟨p, e, w, n0⟩ := rv
            exact ⟨p, e, w, .inr (L.free n0), no n0⟩
          | dp mk =>
            obtain ⟨S, t, nd, n0⟩ := rv
            exact ⟨S, t, nd, fun p hp => ⟨.inr (L.free (n0 p hp)), no (n0 p hp)⟩⟩
          | al => cases ok
        · exact P.elim
      | rz c =>
        simp only [q2] at P ⊢
        exact fun B' H' cr => P B' H' cr.exB (L1.callN cr hA hO)
      | fail => simp only [q2] at P; exact P.elim
theorem aoks_len {K : PySem.W.Frag} {B : Hp} {σ : St} : ∀ {vs : List V} {avs : List AV}, AOks K B σ vs avs → vs.length = avs.length
  | _, _, .nil => rfl
  | _, _, .v _ r => by rw [List.length_cons, List.length_cons, aoks_len r]
  | _, _, .s _ r => by rw [List.length_cons, List.length_cons, aoks_len r]
def mCallN (n : Nat) (m : Option Nat) (g : List D → Rf) (f : M (List AV)) : M (D × Ob) := mCallF m g (M.bind f fun avs => M.opt (if avs.length = n then some avs else none))
theorem eo_call {x : Str} {k n : Nat} {f : Addr} {fd : FuncData} {ps : List Str} {m : Option Nat} {g : List D → Rf} {p : Pos} {fa : M (List AV)} (G : FnG X.prog X.w X.K X.mg X.base k f fd ps (spF X.K X.mg n m g)) (gd : Quiet X.prog X.base X.A) (hr : Room k X.A) (tk : Takes X W)
    (hm : X.mg x = some (.ref f)) (hk : PySem.W.keepIn X.K (.ref f) = true) (hb : Binds X.K fd ps []) (ha : EX X W (e :: es) fa) (hg : Gl X x := by rfl) (hdb : (x == ("__debug__" : Str)) = false := by decide)
    (he : starEach (e :: es) X.env = (false, eval e X.env) :: starEach es X.env := by exact star_un rfl) (hpl : (backTo pos (starEach es X.env)).any (·.1) = false := by rfl) : EO X W (.Call (.Name x p) (e :: es) [] pos) (mCallN n m g fa) := by
  intro F ρ σ B H Q L P
  refine PE.we (pe_callG G gd hr hg hm hk hb (fun σ => passAt tk σ) pa_wa hdb he hpl) ?_
  have P0 := Post.bind P
  refine ha F ρ σ B H _ L ((Post.bind P0).imp fun avs ρ1 B1 H1 e1 L1 P1 vs fs => ?_)
  obtain ⟨avs', h1, h2⟩ := P1.opt
  split at h1
  · rename_i hl
    injection h1 with h1; subst h1
    exact call_sp L1 fs (by rw [aoks_len fs]; exact hl) (h2 B1 H1 (Ex.refl _) L1)
  · cases h1
end
end Dt
namespace Dt
open PySem PySem.Spec PyProof.Rows L2
section
variable {X : Cx} {W : WX} {e a b c : Expr} {pos : Pos} {K : PySem.W.Frag}
def dAbs : List D → Option D
  | [.int i] => some (.int (if i < 0 then -i else i))
  | _ => none
theorem cd_abs : CallD K (fun xs H Q => ∃ i, xs = [.int i] ∧ Q (.int (if i < 0 then -i else i)) H) dAbs := by
  intro xs ds d B H Q ex fs h g
  unfold dAbs at h
  split at h
  · cases fs with
    | cons f fs => cases fs; cases f; injection h with h; subst h; exact ⟨_, rfl, g.1 _ (.int _)⟩
  · cases h
def dLen : List D → Option D
  | [.lst xs] => some (.int xs.length)
  | [.tup xs] => some (.int xs.length)
  | [.scr xs] => some (.int xs.length)
  | [.str x] => if tooLong x.length = true then none else some (.int x.length)
  | _ => none
theorem cd_len : CallD K (fun xs H Q => ∃ x n, xs = [x] ∧ LenV K x H n ∧ Q (.int n) H) dLen := by
  intro xs ds d B H Q ex fs h g
  unfold dLen at h
  split at h
  · cases fs with
    | cons f fs =>
      cases fs
      cases f with
      | @lst l xs ds hl fs =>
        injection h with h; subst h
        exact ⟨_, xs.length, rfl, .inl ⟨xs, .inl (.inl (ex _ _ hl)), rfl⟩, by rw [fs.len]; exact g.1 _ (.int _)⟩
  · cases fs with
    | cons f fs =>
      cases fs
      cases f with
      | @tup l xs ds hl fs =>
        injection h with h; subst h
        exact ⟨_, xs.length, rfl, .inr ⟨xs, ex.st hl, rfl⟩, by rw [fs.len]; exact g.1 _ (.int _)⟩
  · cases fs with
    | cons f fs =>
      cases fs
      cases f with
      | @scr l ns hl =>
        injection h with h; subst h
        exact ⟨_, (List.map V.int _).length, rfl, .inl ⟨_, ex.sl hl, rfl⟩, by rw [List.length_map]; exact g.1 _ (.int _)⟩
  · cases fs with
    | cons f fs =>
      cases fs
      cases f
      split at h
      · cases h
      · rename_i hz
        injection h with h; subst h
        exact ⟨_, _, rfl, ⟨notLong hz, rfl⟩, g.1 _ (.int _)⟩
  · cases h
def dMax2 : List D → Option D
  | [.int i, .int j] => some (.int (if j > i then j else i))
  | _ => none
theorem cd_max2 : CallD K (fun xs H Q => ∃ i j, xs = [.int i, .int j] ∧ Q (.int (if j > i then j else i)) H) dMax2 := by
  intro xs ds d B H Q ex fs h g
  unfold dMax2 at h
  split at h
  · cases fs with
    | cons f fs => cases fs with
      | cons f2 fs => cases fs; cases f; cases f2; injection h with h; subst h; exact ⟨_, _, rfl, g.1 _ (.int _)⟩
  · cases h
def dMin2 : List D → Option D
  | [.int i, .int j] => some (.int (if j < i then j else i))
  | _ => none
theorem cd_min2 : CallD K (fun xs H Q => ∃ i j, xs = [.int i, .int j] ∧ Q (.int (if j < i then j else i)) H) dMin2 := by
  intro xs ds d B H Q ex fs h g
  unfold dMin2 at h
  split at h
  · cases fs with
    | cons f fs => cases fs with
      | cons f2 fs => cases fs; cases f; cases f2; injection h with h; subst h; exact ⟨_, _, rfl, g.1 _ (.int _)⟩
  · cases h
variable {es : List Expr} {p : Pos} {fa : M (List D)} {f1 : M D}
theorem ev_abs (hm : X.mg "abs" = none) (ha : EA X W [a] fa) (hg : Gl X "abs" := by rfl) (he : starEach (a :: []) X.env = (false, eval a X.env) :: starEach [] X.env := by rfl) : EV X W (.Call (.Name "abs" p) [a] [] pos) (mCall dAbs fa) := ev_callB call_abs cd_abs hg hm (by decide +kernel) ha (by decide) (by decide) he
theorem ev_len (hm : X.mg "len" = none) (ha : EA X W [a] fa) (hg : Gl X "len" := by rfl) (he : starEach (a :: []) X.env = (false, eval a X.env) :: starEach [] X.env := by rfl) : EV X W (.Call (.Name "len" p) [a] [] pos) (mCall dLen fa) := ev_callB call_len cd_len hg hm PySem.boot_len ha (by decide) (by decide) he
theorem ev_max2 (hc : X.calm = true) (hm : X.mg "max" = none) (ha : EA X W [a, b] fa) (hg : Gl X "max" := by rfl) (he : starEach (a :: [b]) X.env = (false, eval a X.env) :: starEach [b] X.env := by rfl) (hpl : (backTo pos (starEach [b] X.env)).any (·.1) = false := by rfl) : EV X W (.Call (.Name "max" p) [a, b] [] pos) (mCall dMax2 fa) := ev_callB (call_max2 hc) cd_max2 hg hm (by decide +kernel) ha (by decide) (by decide) he hpl
theorem ev_min2 (hc : X.calm = true) (hm : X.mg "min" = none) (ha : EA X W [a, b] fa) (hg : Gl X "min" := by rfl) (he : starEach (a :: [b]) X.env = (false, eval a X.env) :: starEach [b] X.env := by rfl) (hpl : (backTo pos (starEach [b] X.env)).any (·.1) = false := by rfl) : EV X W (.Call (.Name "min" p) [a, b] [] pos) (mCall dMin2 fa) := ev_callB (call_min2 hc) cd_min2 hg hm (by decide +kernel) ha (by decide) (by decide) he hpl
def tyD : D → String
  | .non => "NoneType"
  | .bl _ => "bool"
  | .int _ => "int"
  | .str _ => "str"
  | .lst _ => "list"
  | .tup _ => "tuple"
  | .scr _ => "list"
  | .dic _ _ => "dict"
  | .dct _ _ => "dict"
  | .ins _ _ _ => "dict"
  | .obj _ => "object"
  | .key _ => "tuple"
def isO : D → Bool
  | .obj _ => true
  | .dct _ _ => true
  | .ins _ _ _ => true
  | _ => false
theorem Fz.ty {B H : Hp} {v : V} {d : D} (ex : Ex B H) (h : Fz K B v d) (n : isO d = false) : TyX K H v (.type (tyD d)) := by
  cases h with
  | non => exact .base .non
  | bl b => exact .base (.bl b)
  | int i => exact .base (.int i)
  | str x => exact .base (.str x)
  | lst h _ => exact .base (.lst (ex _ _ h))
  | tup h _ =>
    rcases h with (h | ⟨o, h⟩) | ⟨o, its, n, h, hc, _⟩
    · exact .base (.tup (ex _ _ h))
    · exact .fTuple (ex _ _ h)
    · exact .kTuple h hc
  | scr h =>
    rcases h with (h | ⟨o, h⟩) | ⟨o, its, n, h, hc, _⟩
    · exact .base (.lst (ex _ _ h))
    · exact .base (.frz (ex _ _ h))
    · exact .kList h hc
  | dic h _ _ => exact .base (.dK (ex _ _ h))
  | dct h _ _ => cases n
  | ins _ _ _ _ => cases n
  | obj a => cases n
  | key h => exact .base (.tup (ex _ _ h))
def dIsi (T : String) (d : D) : Option D := cond (isO d) none ((kitB (tyD d) T).map D.bl)
def mIsi (T : String) (f : M D) : M D := M.bind f fun d => M.opt (dIsi T d)
theorem ev_isi {T : Str} {Tn : String} {p2 : Pos} (hm : X.mg "isinstance" = none) (hmT : X.mg T = none) (ha : EV X W a f1) (hvT : bootBuiltins T = some (.type Tn)) (hg : Gl X "isinstance" := by rfl) (hgT : Gl X T := by rfl) (hn : T ≠ "__name__" := by decide) (hd : (T == ("__debug__" : Str)) = false := by decide)
    (he : starEach (a :: [.Name T p2]) X.env = (false, eval a X.env) :: starEach [.Name T p2] X.env := by rfl) (he2 : starEach (.Name T p2 :: []) X.env = (false, eval (.Name T p2) X.env) :: starEach [] X.env := by rfl) (hpl : (backTo pos (starEach [.Name T p2] X.env)).any (·.1) = false := by rfl) : EV X W (.Call (.Name "isinstance" p) [a, .Name T p2] [] pos) (mIsi Tn f1) := by
  intro F ρ σ B H Q L P
  have pT : PE X (.Name T p2) (tC (.ty Tn)) := pe_bltn hgT hmT hvT rfl hn hd
  refine PE.we (pe_callB call_isi hg hm (by decide +kernel) (pa_cons pe_we (pa_cons pT pa_nil he2) he) (by decide) (by decide) he hpl) ?_
  refine ha F ρ σ B H _ L ((Post.bind P).imp fun d ρ1 B1 H1 e1 L1 P1 v fv => ?_)
  obtain ⟨z, hz, k⟩ := P1.opt
  unfold dIsi at hz
  cases qo : isO d with
  | true => rw [qo] at hz; cases hz
  | false =>
  rw [qo] at hz
  dsimp only [cond_false] at hz
  cases q : kitB (tyD d) Tn with
  | none => rw [q] at hz; cases hz
  | some r =>
    rw [q] at hz
    injection hz with hz; subst hz
    exact ⟨v, .ty Tn, .type (tyD d), .type Tn, r, rfl, .ty Tn, fv.ty L1.ex qo, kit_ty q, k B1 H1 (Ex.refl _) L1 _ (.bl r)⟩
def chk (i : Nat) : M Unit := fun ρ => match ρ[i]? with
  | some (.ow _) => .ok () ρ
  | some (.io _) => .ok () ρ
  | some (.fz _) => .ok () ρ
  | _ => .fail
theorem Lv.chk {α : Type} {F : Fr} {ρ : Env} {σ : St} {B H : Hp} {i : Nat} (L : Lv K F ρ σ B H) (h : Dt.chk i ρ ≠ .fail) : Dt.chk i ρ = .ok () ρ ∧ ∃ v, σ[i]? = some (some v) := by
  unfold Dt.chk at h ⊢
  split at h
  · rename_i d q
    obtain ⟨a, e1, _⟩ := L.ow i _ q rfl
    exact ⟨by simp only [q], _, e1⟩
  · rename_i d q
    obtain ⟨a, e1, _⟩ := L.ow i _ q rfl
    exact ⟨by simp only [q], _, e1⟩
  · rename_i d q
    obtain ⟨v, e1, _⟩ := L.fz i _ q
    exact ⟨by simp only [q], _, e1⟩
  · exact absurd rfl h
def mPutAt (i : Nat) (fe fk : M D) : M Fl := M.bind fe fun d => M.bind (chk i) fun _ => M.bind fk fun k ρ => match ρ[i]?, k with
  | some (.ow (.lst ds)), .int z => match ixN ds.length z with
    | some j => .ok .nx (ρ.set i (.ow (.lst (ds.set j d))))
    | none => .fail
  | some (.io (.lst ds)), .int z => match ixN ds.length z with
    | some j => .ok .nx (ρ.set i (.io (.lst (ds.set j d))))
    | none => .fail
  | _, _ => .fail
theorem Lv.setAt {F : Fr} {ρ : Env} {σ : St} {B H : Hp} {i : Nat} {s : Slot} {ds ds' : List D} (L : Lv K F ρ σ B H) (e : ρ[i]? = some s) (ho : flat s = true) (hd : s.dat = .lst ds) :
    ∃ a vs, σ[i]? = some (some (V.ref a)) ∧ H a = some (.lst vs) ∧ Fzs K B vs ds ∧ ∀ vs' ds', Fzs K B vs' ds' → Lv K F (ρ.set i (reslot ρ[i]? (.lst ds'))) σ B (upd H a (.lst vs')) := by
  obtain ⟨a, e1, w, g⟩ := L.ow i s e ho
  rw [hd] at w
  obtain ⟨n, vs, h1, fs⟩ := w
  refine ⟨a, vs, e1, h1, fs, fun vs' ds' fs' => ?_⟩
  refine L.write e ho e1 ?_ ?_
  · rw [e]
    cases s with
    | ow d => exact .inl ⟨d, rfl, _, rfl⟩
    | io d => exact .inr ⟨d, rfl, _, rfl⟩
    | un => cases ho
    | fz d => cases ho
    | dp _ d => cases ho
  · rw [e]
    cases s with
    | ow d => exact ⟨n, vs', upd_same, fs'⟩
    | io d => exact ⟨n, vs', upd_same, fs'⟩
    | un => cases ho
    | fz d => cases ho
    | dp _ d => cases ho
theorem sv_putAt {i : Nat} {x : Str} {kx : Expr} {px pt : Pos} {fe fk : M D} (he : EV X W e fe) (hk : EV X W kx fk) (hN : X.N[i]? = some x := by rfl) (hv : Vis X.env.scope x := by first | exact Or.inl rfl | exact Or.inr (Or.inl rfl) | exact Or.inr (Or.inr rfl)) (hd : (x == ("__debug__" : Str)) = false := by decide)
    (hcd : (x == ("__classdict__" : Str)) = false := by decide)
    (ha : ∀ v, assign (.Subscript (.Name x px) kx pt) X.env v = (do
      let ov ← holding [v] (eval (.Name x px) X.env)
      let iv ← holding [v, ov] (eval kx X.env)
      standAt pt
      holding [v, ov, iv] (setItem ov iv v)
      release [v, ov, iv] []) := by intro _; rfl)
    (hs : swapsWithSole [.Subscript (.Name x px) kx pt] e pos.line X.env = pure false := by rfl) (hw : swappedStores [.Subscript (.Name x px) kx pt] e X.env = pure none := by rfl)
    (h1 : (assignEach [.Subscript (.Name x px) kx pt] X.env).map (·.2) = [assign (.Subscript (.Name x px) kx pt) X.env] := by rfl) : SV X W (.Assign [.Subscript (.Name x px) kx pt] e pos) (mPutAt i fe fk) := by
  intro F ρ σ B H N L P
  refine PS.ws (ps_asg pe_we (pg_sub (pe_var hN hv hd hcd) pe_we set_list ha) hs hw h1) ?_
  refine he F ρ σ B H _ L ((PostS.bind P).imp fun d ρ1 B1 H1 e1 L1 P1 v fv => ?_)
  have P1' : PostS X W F B1 ((M.bind (chk i) fun _ => M.bind fk fun k ρ => match ρ[i]?, k with
    | some (.ow (.lst ds)), .int z => match ixN ds.length z with
      | some j => .ok .nx (ρ.set i (.ow (.lst (ds.set j d))))
      | none => .fail
    | some (.io (.lst ds)), .int z => match ixN ds.length z with
      | some j => .ok .nx (ρ.set i (.io (.lst (ds.set j d))))
      | none => .fail
    | _, _ => Rs.fail) ρ1) N := P1
  have hne : chk i ρ1 ≠ .fail := fun z => by unfold M.bind at P1'; simp only [z] at P1'; exact P1'.elim
  obtain ⟨hck, vo0, ev0⟩ := L1.chk (α := Unit) hne
  unfold M.bind at P1'
  simp only [hck] at P1'
  have P2 := PostS.bind (σ := σ) P1'
  have go : ∀ (vo : V), σ[i]? = some (some vo) → tVar i σ H1 fun o H1' => we X kx σ H1' fun k H2 => rSetL o k v H2 fun H3 => N.nx σ H3 := by
    intro vo ev
    refine ⟨vo, ev, hk F ρ1 σ B1 H1 _ L1 (P2.imp fun k ρ2 B2 H2 e2 L2 P3 u fu => ?_)⟩
    cases q : ρ2[i]? with
    | none => simp only [q] at P3; exact P3.elim
    | some s =>
      have fin : ∀ {ds : List D} {z : Int} {j : Nat}, flat s = true → s.dat = .lst ds → k = .int z → ixN ds.length z = some j → PostS X W F B2 (.ok .nx (ρ2.set i (reslot ρ2[i]? (.lst (ds.set j d))))) N → rSetL vo u v H2 fun H3 => N.nx σ H3 := by
        intro ds z j ho hdat hk hj P4
        subst hk
        cases fu
        obtain ⟨a, vs, h1, h2, fs, st⟩ := L2.setAt (ds' := ds) q ho hdat
        rw [ev] at h1
        injection h1 with h1; injection h1 with h1; subst h1
        exact ⟨a, vs, z, j, rfl, rfl, h2, by rw [fs.len]; exact hj, P4 σ B2 _ (Ex.refl _) (st _ _ (fs.set j (fv.mono e2)))⟩
      cases s with
      | ow dd =>
        cases dd with
        | lst ds =>
          cases k with
          | int z =>
            simp only [q] at P3
            cases hj : ixN ds.length z with
            | none => simp only [hj] at P3; exact P3.elim
            | some j => simp only [hj] at P3; exact fin rfl rfl rfl hj (by rw [q]; exact P3)
          | _ => simp only [q] at P3; exact P3.elim
        | _ => simp only [q] at P3; exact P3.elim
      | io dd =>
        cases dd with
        | lst ds =>
          cases k with
          | int z =>
            simp only [q] at P3
            cases hj : ixN ds.length z with
            | none => simp only [hj] at P3; exact P3.elim
            | some j => simp only [hj] at P3; exact fin rfl rfl rfl hj (by rw [q]; exact P3)
          | _ => simp only [q] at P3; exact P3.elim
        | _ => simp only [q] at P3; exact P3.elim
      | un => simp only [q] at P3; exact P3.elim
      | fz _ => simp only [q] at P3; exact P3.elim
      | dp _ _ => simp only [q] at P3; exact P3.elim
  exact go vo0 ev0
def contR : Option Slot → Option D
  | some (.ow d) => some d
  | some (.io d) => some d
  | some (.fz d) => some d
  | _ => none
theorem Lv.cont {F : Fr} {ρ : Env} {σ : St} {B H : Hp} {i : Nat} {d : D} {v : V} (L : Lv K F ρ σ B H) (h : contR ρ[i]? = some d) (ev : σ[i]? = some (some v)) : ∃ B2, Ex B B2 ∧ Ex B2 H ∧ Fz K B2 v d ∧ (∀ ds, d = .lst ds → ∃ a vs, v = .ref a ∧ H a = some (.lst vs) ∧ Fzs K B vs ds) := by
  have own : ∀ {s : Slot}, ρ[i]? = some s → flat s = true → s.dat = d → ∃ B2, Ex B B2 ∧ Ex B2 H ∧ Fz K B2 v d ∧ (∀ ds, d = .lst ds → ∃ a vs, v = .ref a ∧ H a = some (.lst vs) ∧ Fzs K B vs ds) := by
    intro s q ho hd
    obtain ⟨a, e1, w, g⟩ := L.ow i s q ho
    rw [ev] at e1; injection e1 with e1; injection e1 with e1; subst e1
    rw [hd] at w
    obtain ⟨o, h1, h2⟩ := w.fz
    refine ⟨_, Ex.new w.hid, fun b u q => ?_, h2, fun ds z => ?_⟩
    · by_cases hb : b = a
      · subst hb; rw [upd_same] at q; rw [h1]; exact q
      · rw [upd_ne hb] at q; exact L.ex b u q
    · subst z
      obtain ⟨_, vs, h3, fs⟩ := w
      exact ⟨a, vs, rfl, h3, fs⟩
  cases q : ρ[i]? with
  | none => rw [q] at h; cases h
  | some s =>
    rw [q] at h
    cases s with
    | un => cases h
    | dp _ _ => cases h
    | ow d' => injection h with h; exact own q rfl h
    | io d' => injection h with h; exact own q rfl h
    | fz d' =>
      injection h with h; subst h
      obtain ⟨v', e1, f⟩ := L.fz i _ q
      rw [ev] at e1; injection e1 with e1; injection e1 with e1; subst e1
      refine ⟨B, Ex.refl _, L.ex, f, fun ds z => ?_⟩
      subst z
      cases f with
      | lst h1 fs => exact ⟨_, _, rfl, L.ex _ _ h1, fs⟩
def dIxL : D → D → Option D
  | .lst ds, .int i => L2.atI ds i
  | _, _ => none
def mPeek (i : Nat) (fk : M D) : M D := M.bind (chk i) fun _ => M.bind fk fun k ρ => match (contR ρ[i]?).bind fun d => dIxL d k with
  | some z => .ok z ρ
  | none => .fail
theorem ev_peek {i : Nat} {x : Str} {kx : Expr} {px : Pos} {fk : M D} (hk : EV X W kx fk) (hN : X.N[i]? = some x := by rfl) (hv : Vis X.env.scope x := by first | exact Or.inl rfl | exact Or.inr (Or.inl rfl) | exact Or.inr (Or.inr rfl)) (hd : (x == ("__debug__" : Str)) = false := by decide)
    (hcd : (x == ("__classdict__" : Str)) = false := by decide) (hs : PlainIx kx := by exact fun _ _ => rfl) : EV X W (.Subscript (.Name x px) kx pos) (mPeek i fk) := by
  intro F ρ σ B H Q L P
  refine PE.we (pe_ix ix_list (pe_var hN hv hd hcd) pe_we hs) ?_
  have P0 : Post X W F σ B ((M.bind (chk i) fun _ => M.bind fk fun k ρ => match (contR ρ[i]?).bind fun d => dIxL d k with
    | some z => .ok z ρ
    | none => Rs.fail) ρ) (fun d _ B' H' => ∀ v, Fz X.K B' v d → Q v H') := P
  have hne : chk i ρ ≠ .fail := fun z => by unfold M.bind at P0; simp only [z] at P0; exact P0.elim
  obtain ⟨hck, vo, ev⟩ := L.chk (α := Unit) hne
  unfold M.bind at P0
  simp only [hck] at P0
  refine ⟨vo, ev, hk F ρ σ B H _ L ((Post.bind P0).imp fun k ρ2 B2 H2 e2 L2 P3 u fu => ?_)⟩
  cases q : contR ρ2[i]? with
  | none => simp only [q, Option.bind_none] at P3; exact P3.elim
  | some d =>
    simp only [q, Option.bind_some] at P3
    cases q2 : dIxL d k with
    | none => simp only [q2] at P3; exact P3.elim
    | some z =>
      simp only [q2] at P3
      obtain ⟨B3, _, _, _, hl⟩ := L2.cont q ev
      unfold dIxL at q2
      split at q2
      · obtain ⟨a, vs, rfl, h1, fs⟩ := hl _ rfl
        cases fu
        obtain ⟨v, h3, h4⟩ := fs.atI q2
        exact ⟨a, vs, _, v, rfl, rfl, .inl (.inl h1), h3, P3 B2 H2 (Ex.refl _) L2 v h4⟩
      · cases q2
def scalD : D → Bool
  | .non => true
  | .bl _ => true
  | .int _ => true
  | .str _ => true
  | _ => false
theorem Fz.scal {B B' : Hp} {v : V} {d : D} (h : Fz K B v d) (s : scalD d = true) : Fz K B' v d := by
  cases h with
  | non => exact .non
  | bl b => exact .bl b
  | int i => exact .int i
  | str x => exact .str x
  | lst _ _ => cases s
  | tup _ _ => cases s
  | scr _ => cases s
  | dic _ _ _ => cases s
  | dct _ _ _ => cases s
  | ins _ _ _ _ => cases s
  | obj _ => cases s
  | key _ => cases s
def mBinL (g : D → D → Option D) (i : Nat) (f2 : M D) : M D := M.bind (chk i) fun _ => M.bind f2 fun y ρ => match (contR ρ[i]?).bind fun d => g d y with
  | some z => if scalD z = true then .ok z ρ else .fail
  | none => .fail
def mLenL (i : Nat) : M D := M.bind (chk i) fun _ ρ => match (contR ρ[i]?).bind fun d => dLen [d] with
  | some z => .ok z ρ
  | none => .fail
theorem dLen_scal {ds : List D} {d : D} (h : dLen ds = some d) : scalD d = true := by
  unfold dLen at h
  split at h
  · injection h with h; subst h; rfl
  · injection h with h; subst h; rfl
  · injection h with h; subst h; rfl
  · split at h
    · cases h
    · injection h with h; subst h; rfl
  · cases h
theorem ev_lenL {i : Nat} {x : Str} {px : Pos} (hm : X.mg "len" = none) (hN : X.N[i]? = some x := by rfl) (hv : Vis X.env.scope x := by first | exact Or.inl rfl | exact Or.inr (Or.inl rfl) | exact Or.inr (Or.inr rfl)) (hd : (x == ("__debug__" : Str)) = false := by decide)
    (hcd : (x == ("__classdict__" : Str)) = false := by decide) (hg : Gl X "len" := by rfl) (he : starEach (.Name x px :: []) X.env = (false, eval (.Name x px) X.env) :: starEach [] X.env := by rfl) : EV X W (.Call (.Name "len" p) [.Name x px] [] pos) (mLenL i) := by
  intro F ρ σ B H Q L P
  refine PE.we (pe_callB call_len hg hm PySem.boot_len (pa_cons (pe_var hN hv hd hcd) pa_nil he) (by decide) (by decide) he rfl) ?_
  have P0 : Post X W F σ B ((M.bind (chk i) fun _ ρ => match (contR ρ[i]?).bind fun d => dLen [d] with
    | some z => .ok z ρ
    | none => Rs.fail) ρ) (fun d _ B' H' => ∀ v, Fz X.K B' v d → Q v H') := P
  have hne : chk i ρ ≠ .fail := fun z => by unfold M.bind at P0; simp only [z] at P0; exact P0.elim
  obtain ⟨hck, vo, ev⟩ := L.chk (α := Unit) hne
  unfold M.bind at P0
  simp only [hck] at P0
  refine ⟨vo, ev, ?_⟩
  cases q : contR ρ[i]? with
  | none => simp only [q, Option.bind_none] at P0; exact P0.elim
  | some d =>
    simp only [q, Option.bind_some] at P0
    cases q2 : dLen [d] with
    | none => simp only [q2] at P0; exact P0.elim
    | some z =>
      simp only [q2] at P0
      obtain ⟨B3, e3, e4, f3, hl⟩ := L.cont q ev
      exact cd_len [vo] [d] z B3 H Q e4 (.cons f3 .nil) q2 ⟨fun v fv => P0 B H (Ex.refl _) L v (fv.scal (dLen_scal q2)), fun p o v hp fv => P0 _ _ (Ex.new (L.ex.nn hp)) (L.alloc hp) v (fv.scal (dLen_scal q2))⟩
theorem lt_line {n : Nat} (h : n < 10000) : n < sizeLine := Nat.lt_of_lt_of_le h (by decide)
end
end Dt
namespace Dt
open PySem PySem.Spec PyProof.Rows L2
abbrev veTail : List Value := [.type "ValueError", .type "Exception", .type "BaseException", .type "object"]
def ExC (K : PySem.W.Frag) (mg : Str → Option Value) (x : Str) : Prop := ∃ C, mg x = some (.ref C) ∧ PySem.W.excIn K C veTail "ValueError.__new__" = true ∧ PySem.W.keepIn K (.ref C) = true ∧
  PySem.W.subIn K (.ref C) (.type "BaseException") = some true ∧ PySem.W.typeIn K (.ref C) = some (.type "type")
theorem sv_raise {X : Cx} {W : WX} {x m : Str} {j : Nat} {p p2 p3 pos : Pos} (hc : X.calm = true) (tk : Takes X W) (T : ExC X.K X.mg x) (hg : Gl X x := by rfl) (hdb : (x == ("__debug__" : Str)) = false := by decide) :
    SV X W (.Raise (some (.Call (.Name x p) [.Constant (.str m) j p2] [] p3)) none pos) (M.raise x) := by
  obtain ⟨C, gC, xC, kC, bC, tC⟩ := T
  intro F ρ σ B H N L P
  refine PS.ws (ps_raise hc tk (pmk_own PySem.F.excBase_ValueError xC gC kC (raises_own bC tC) hg hdb)) ?_
  have h := P σ B H (Ex.refl _) L
  unfold cv at h
  rw [gC] at h
  exact h
def FnIn (K : PySem.W.Frag) (mg : Str → Option Value) (x : Str) (st : Stmt) : Prop := ∃ f fd, Fun K x x st f fd ∧ mg x = some (.ref f)
def Ok (P : Program) (w : World) (K : PySem.W.Frag) (mg : Str → Option Value) (base : Heap) (x : Str) (k n : Nat) (m : Option Nat) (g : List D → Rf) : Prop :=
  ∃ f fd ps, mg x = some (.ref f) ∧ PySem.W.keepIn K (.ref f) = true ∧ Binds K fd ps [] ∧ FnG P w K mg base k f fd ps (spF K mg n m g)
theorem ok_mk {P : Program} {w : World} {K : PySem.W.Frag} {mg : Str → Option Value} {base : Heap} {x : Str} {st : Stmt} {N ps : List Str} {k : Nat} {m : Option Nat} {fb : M Fl} (T : FnIn K mg x st) (S : FnScope N ps (defScope st)) (hps : ps.length ≤ N.length)
    (hb : ∀ (kV doc pm : Value) (an : Option Addr) (cdv ct : Value) (us : List Value), us.length = ps.length → bindArgs (PySem.W.fnOf x x (defArgs st) (defBody st) (defScope st) .none kV doc pm an cdv ct) ⟨us, []⟩ = pure (ps.zip us))
    (hbody : ∀ (f : Addr) (cdv : Value) (A : Around) (outer : List PySem.Env) (s : Shared) (H : Hp) (E : XK), Quiet P base (A.deeper (envOfC x (defScope st) s.heap.objs.size f cdv)) → Room k (A.deeper (envOfC x (defScope st) s.heap.objs.size f cdv)) →
      Takes (cxOf (L2.CX P w) P w K mg base N x (defScope st) f cdv A outer s H E) (fun cls d _ H => E cls d H) →
      PassesOwn (model P w) (A.deeper (envOfC x (defScope st) s.heap.objs.size f cdv)) (envOfC x (defScope st) s.heap.objs.size f cdv) (cxOf (L2.CX P w) P w K mg base N x (defScope st) f cdv A outer s H E).xe →
      SVs (cxOf (L2.CX P w) P w K mg base N x (defScope st) f cdv A outer s H E) (fun cls d _ H => E cls d H) (defBody st) fb) : Ok P w K mg base x (k + 1) ps.length m (runF m N.length fb) := by
  obtain ⟨f, fd, F, hm⟩ := T
  exact ⟨f, fd, ps, hm, F.kp, F.binds hb, fn_def F S hps fun cdv A outer s H E gd hr => hbody f cdv A outer s H E gd hr (takes_of rfl rfl rfl rfl) (passes_of rfl)⟩
theorem ok_at {P : Program} {w : World} {K : PySem.W.Frag} {mg : Str → Option Value} {base : Heap} {x : Str} {st : Stmt} {N ps : List Str} {k : Nat} {m : Option Nat} {fb : M Fl} {f : Addr} {fd : FuncData} (F : Fun K x x st f fd) (S : FnScope N ps (defScope st)) (hps : ps.length ≤ N.length)
    (hbody : ∀ (f : Addr) (cdv : Value) (A : Around) (outer : List PySem.Env) (s : Shared) (H : Hp) (E : XK), Quiet P base (A.deeper (envOfC x (defScope st) s.heap.objs.size f cdv)) → Room k (A.deeper (envOfC x (defScope st) s.heap.objs.size f cdv)) →
      Takes (cxOf (L2.CX P w) P w K mg base N x (defScope st) f cdv A outer s H E) (fun cls d _ H => E cls d H) →
      PassesOwn (model P w) (A.deeper (envOfC x (defScope st) s.heap.objs.size f cdv)) (envOfC x (defScope st) s.heap.objs.size f cdv) (cxOf (L2.CX P w) P w K mg base N x (defScope st) f cdv A outer s H E).xe →
      SVs (cxOf (L2.CX P w) P w K mg base N x (defScope st) f cdv A outer s H E) (fun cls d _ H => E cls d H) (defBody st) fb) : FnG P w K mg base (k + 1) f fd ps (spF K mg ps.length m (runF m N.length fb)) :=
  fn_def F S hps fun cdv A outer s H E gd hr => hbody f cdv A outer s H E gd hr (takes_of rfl rfl rfl rfl) (passes_of rfl)
theorem eo_fn {X : Cx} {W : WX} {x : Str} {k j n : Nat} {m : Option Nat} {g : List D → Rf} {e : Expr} {es : List Expr} {p pos : Pos} {fa : M (List AV)} (G : Ok X.prog X.w X.K X.mg X.base x k n m g) (gd : Quiet X.prog X.base X.A) (hr : Room j X.A) (tk : Takes X W) (ha : EX X W (e :: es) fa) (hk : k ≤ j := by decide) (hg : Gl X x := by rfl) (hdb : (x == ("__debug__" : Str)) = false := by decide)
    (he : starEach (e :: es) X.env = (false, eval e X.env) :: starEach es X.env := by exact star_un rfl) (hpl : (backTo pos (starEach es X.env)).any (·.1) = false := by rfl) : EO X W (.Call (.Name x p) (e :: es) [] pos) (mCallN n m g fa) := by
  obtain ⟨f, fd, ps, hm, kp, hb, G⟩ := G
  exact eo_call G gd (hr.mono hk) tk hm kp hb ha hg hdb he hpl
def spL (K : PySem.W.Frag) (n : Nat) : Sp := fun vs H Q _ => ∃ (a : Addr) (ns : List Int), vs = [.ref a] ∧ SqL K H a (ns.map V.int) ∧ ns.length ≤ n ∧ (∀ z ∈ ns, Builtin.Int.intBits z ≤ 1048576) ∧ ∀ H', Q (.bl true) H'
theorem law_of {P : Program} {w : World} {K : PySem.W.Frag} {mg : Str → Option Value} {base : Heap} {k n : Nat} {f : Addr} {fd : FuncData} {ps : List Str} {g : List D → Rf} (G : FnG P w K mg base k f fd ps (spF K mg 1 none g))
    (h : ∀ ns : List Int, ns.length ≤ n → (∀ z ∈ ns, Builtin.Int.intBits z ≤ 1048576) → g [.scr ns] = .ok (.bl true) .ff .non) : FnG P w K mg base k f fd ps (spL K n) := by
  refine G.imp fun vs H Q E q => ?_
  obtain ⟨a, ns, rfl, hS, hl, hb, q⟩ := q
  refine ⟨H, [.scr ns], 0, Ex.refl _, .fz (.scr hS) .nil, rfl, ?_⟩
  rw [h ns hl hb]
  intro v B' H' _ _ rv
  cases rv
  exact q H'
end Dt
namespace Dt
open PySem PySem.Spec PyProof.Rows L2
def wipeE (ρ : Env) : List Nat → Env
  | [] => ρ
  | v :: vs => (wipeE ρ vs).set v .un
theorem wipeE_len (ρ : Env) : ∀ vs : List Nat, (wipeE ρ vs).length = ρ.length
  | [] => rfl
  | v :: vs => by unfold wipeE; rw [List.length_set, wipeE_len ρ vs]
section
variable {K : PySem.W.Frag} {F : Fr} {ρ ρ' : Env} {σ σ' : St} {B H B' H' : Hp}
theorem Lv.wipe (L : Lv K F ρ σ B H) : ∀ vs : List Nat, Lv K F (wipeE ρ vs) (L2.wipe σ vs) B H
  | [] => L
  | v :: vs => by
    have L1 := Lv.wipe L vs
    unfold wipeE L2.wipe
    generalize wipeE ρ vs = r at *
    generalize L2.wipe σ vs = s at *
    have sg : ∀ {j : Nat}, j ≠ v → (s.set v none)[j]? = s[j]? := fun {j} h => List.getElem?_set_ne (Ne.symm h)
    refine L1.few (by rw [List.length_set, List.length_set]; exact L1.len) (fun j d e1 => ?_) (fun j t e1 w1 => ?_)
    · rcases get_set e1 with ⟨rfl, z, l⟩ | ⟨n, e1⟩
      · cases z
      · rw [sg n]; exact L1.fz j d e1
    · rcases get_set e1 with ⟨rfl, z, l⟩ | ⟨n, e1⟩
      · rw [z] at w1; cases w1
      · exact ⟨e1, sg n⟩
theorem wipeE_get {ρ : Env} {j : Nat} {s : Slot} : ∀ {vs : List Nat}, (wipeE ρ vs)[j]? = some s → s = .un ∨ (j ∉ vs ∧ ρ[j]? = some s)
  | [], e => .inr ⟨by simp, e⟩
  | v :: vs, e => by
    rcases get_set e with ⟨rfl, z, l⟩ | ⟨n, e⟩
    · exact .inl z
    · rcases wipeE_get e with z | ⟨h, z⟩
      · exact .inl z
      · exact .inr ⟨fun q => (List.mem_cons.mp q).elim n h, z⟩
theorem Lv.unwipe {vs : List Nat} (L : Lv K F ρ (L2.wipe σ vs) B H) : Lv K F (wipeE ρ vs) σ B H := by
  have sg : ∀ {j : Nat}, j ∉ vs → (L2.wipe σ vs)[j]? = σ[j]? := fun {j} h => wipe_out h
  have own : ∀ {j : Nat} {s : Slot}, (wipeE ρ vs)[j]? = some s → owned s = true → j ∉ vs ∧ ρ[j]? = some s := fun {j s} e w => by
    rcases wipeE_get e with z | h
    · rw [z] at w; cases w
    · exact h
  refine L.few (by rw [wipeE_len, L.len, wipe_length]) (fun j d e1 => ?_) (fun j t e1 w1 => ?_)
  · rcases wipeE_get e1 with z | ⟨h, e1⟩
    · cases z
    · rw [← sg h]; exact L.fz j d e1
  · obtain ⟨h, e1⟩ := own e1 w1
    exact ⟨e1, (sg h).symm⟩
end
section
variable {X : Cx} {W : WX}
structure Wts (X : Cx) (ifs : List Expr) (σ : St) (H : Hp) (Q : Bool → Hp → Prop) : Prop where
  run : ∀ (pins : List (Addr × Obj)) (s : Shared), Inv X pins σ H s →
  wpAny (model X.prog X.w) X.A (forIn ifs true fun c r => if r = true then do let ok ← isTrue c X.env (eval c X.env); pure (ForInStep.yield ok) else pure (ForInStep.yield r)) (TP X pins σ Q) X.xe s
def wts (X : Cx) (ifs : List Expr) : TT := Wts X ifs
theorem PTs.wts {ifs : List Expr} {t : TT} {σ : St} {H : Hp} {Q : Bool → Hp → Prop} (h : PTs X ifs t) (q : t σ H Q) : wts X ifs σ H Q := Wts.mk fun pins s I => h.run pins s σ H Q I q
def ETs (X : Cx) (W : WX) (ifs : List Expr) (f : M Bool) : Prop := ∀ (F : Fr) (ρ : Env) (σ : St) (B H : Hp) (Q : Bool → Hp → Prop), Lv X.K F ρ σ B H →
  Post X W F σ B (f ρ) (fun b _ _ H' => Q b H') → wts X ifs σ H Q
theorem ets_nil : ETs X W [] (M.pure true) := fun F ρ σ B H Q L P => PTs.wts pts_nil (P B H (Ex.refl _) L)
theorem ets_one {c : Expr} {f : M Bool} (h : ET X W c f) : ETs X W [c] f := fun F ρ σ B H Q L P => PTs.wts (pts_one pt_wt) (h F ρ σ B H Q L P)
end
abbrev W0 : WX := fun _ _ _ _ => False
def mNoR {α : Type} (f : M α) : M α := fun ρ => match f ρ with
  | .ok a ρ' => .ok a ρ'
  | _ => .fail
def mLcL (own : List Nat) (g : D → Env → Option Env) (t : M Bool) (e : M D) : List D → List D → M (List D)
  | [], acc => M.pure acc
  | d :: r, acc => fun ρ => match g d ρ with
    | none => .fail
    | some ρ1 => M.bind (mNoR t) (fun k => match k with
      | false => fun ρ2 => mLcL own g t e r acc (wipeE ρ2 own)
      | true => M.bind (mNoR e) fun y ρ2 => if acc.length < 10000 then mLcL own g t e r (acc ++ [y]) (wipeE ρ2 own) else .fail) ρ1
def mLc (own : List Nat) (f : M (List D)) (g : D → Env → Option Env) (t : M Bool) (e : M D) : M (D × Ob) := M.bind f fun ds ρ => match mLcL own g t e ds [] (wipeE ρ own) with
  | .ok acc ρ2 => .ok (.lst acc, .tt) (wipeE ρ2 own)
  | _ => .fail
def obMk : Ob → D → Option Mk
  | .ff, _ => some .z
  | .tt, .lst _ => some (.l .z)
  | .tt, _ => none
  | .dp m, _ => some m
  | .al, _ => none
noncomputable instance : DecidableEq Mk := fun a b => Classical.propDecidable (a = b)
noncomputable def mLcG (own : List Nat) (g : D → Env → Option Env) (t : M Bool) (e : M (D × Ob)) (m : Mk) : List D → List D → M (List D)
  | [], acc => M.pure acc
  | d :: r, acc => fun ρ => match g d ρ with
    | none => .fail
    | some ρ1 => M.bind (mNoR t) (fun k => match k with
      | false => fun ρ2 => mLcG own g t e m r acc (wipeE ρ2 own)
      | true => M.bind (mNoR e) fun y ρ2 => if acc.length < 10000 ∧ obMk y.2 y.1 = some m then mLcG own g t e m r (acc ++ [y.1]) (wipeE ρ2 own) else .fail) ρ1
noncomputable def mLcD (own : List Nat) (m : Mk) (f : M (List D)) (g : D → Env → Option Env) (t : M Bool) (e : M (D × Ob)) : M (D × Ob) := M.bind f fun ds ρ => match mLcG own g t e m ds [] (wipeE ρ own) with
  | .ok acc ρ2 => .ok (.lst acc, .dp (.l m)) (wipeE ρ2 own)
  | _ => .fail
theorem mLcG_z {own : List Nat} {g : D → Env → Option Env} {t : M Bool} {e : M D} : ∀ (ds acc : List D) (ρ : Env), mLcG own g t (mOf e) .z ds acc ρ = mLcL own g t e ds acc ρ
  | [], acc, ρ => rfl
  | d :: r, acc, ρ => by
    unfold mLcG mLcL
    cases g d ρ with
    | none => rfl
    | some ρ1 =>
      simp only
      unfold M.bind
      cases mNoR t ρ1 with
      | rz c ρ2 => rfl
      | fail => rfl
      | ok k ρ2 =>
        simp only
        cases k with
        | false => exact mLcG_z r acc _
        | true =>
          simp only
          unfold mNoR mOf M.bind
          cases e ρ2 with
          | rz c ρ3 => rfl
          | fail => rfl
          | ok y ρ3 =>
            simp only [M.pure, obMk, and_true]
            split
            · exact mLcG_z r (acc ++ [y]) _
            · rfl
theorem VO.tr {K : PySem.W.Frag} {F : Fr} {ρ : Env} {σ : St} {B H : Hp} {v : V} {d : D} {o : Ob} {m : Mk} (w : VO K F ρ σ B H v d o) (h : obMk o d = some m) : ∃ S, Tr K B H m v d S ∧ S.Nodup ∧ ∀ a ∈ S, (F.A a ∨ F.H0 a = none) ∧ ¬ OwS K B H ρ σ a := by
  cases o with
  | ff => injection h with h; subst h; exact ⟨[], by unfold Tr; exact ⟨w, rfl⟩, .nil, fun a q => nomatch q⟩
  | tt =>
    cases d with
    | lst ds =>
      injection h with h; subst h
      obtain ⟨a, rfl, ⟨hb, vs, hv, fs⟩, g, no⟩ := w
      refine ⟨[a], ?_, by simp, fun b hb => by rw [List.mem_singleton.mp hb]; exact ⟨g, no⟩⟩
      unfold Tr
      refine ⟨a, vs, ds, [], rfl, rfl, hb, hv, ?_, rfl⟩
      have : ∀ {vs : List V} {ds : List D}, Fzs K B vs ds → Its (Tr K B H .z) vs ds [] := fun {vs ds} fs => by
        induction vs generalizing ds with
        | nil => cases fs; exact .nil
        | cons v vs ih =>
          cases fs with
          | cons f fs => exact .cons (S := []) (T := []) (by unfold Tr; exact ⟨f, rfl⟩) (ih fs)
      exact this fs
    | _ => cases h
  | dp m' => injection h with h; subst h; exact w
  | al => cases h
theorem Its.z {K : PySem.W.Frag} {B H : Hp} {vs : List V} {ds : List D} {S : List Addr} (h : Its (Tr K B H .z) vs ds S) : Fzs K B vs ds ∧ S = [] := by
  induction h with
  | nil => exact ⟨.nil, rfl⟩
  | cons a t ih =>
    unfold Tr at a
    exact ⟨.cons a.1 ih.1, by rw [a.2, ih.2]; rfl⟩
theorem VO.flat {K : PySem.W.Frag} {F : Fr} {ρ : Env} {σ : St} {B H : Hp} {v : V} {d : D} (w : VO K F ρ σ B H v d (.dp (.l .z))) : VO K F ρ σ B H v d .tt := by
  obtain ⟨S, t, nd, g⟩ := w
  unfold Tr at t
  obtain ⟨a, vs, ds, T, rfl, rfl, hb, hv, i, rfl⟩ := t
  obtain ⟨fs, rfl⟩ := i.z
  obtain ⟨g1, g2⟩ := g a (by simp)
  exact ⟨a, rfl, ⟨hb, vs, hv, fs⟩, g1, g2⟩
theorem Its.app {R : V → D → List Addr → Prop} {vs : List V} {ds : List D} {S T : List Addr} {v : V} {d : D} (h : Its R vs ds S) (r : R v d T) : Its R (vs ++ [v]) (ds ++ [d]) (S ++ T) := by
  induction h with
  | nil => exact (by simpa using Its.cons r .nil)
  | cons a t ih =>
    rw [List.append_assoc]
    exact .cons a ih
theorem wipe_onl {is vs : List Nat} {σ σ' : St} (h : Onl is (L2.wipe σ vs) σ') (hs : ∀ i ∈ is, i ∈ vs) : L2.wipe σ' vs = L2.wipe σ vs := by
  apply List.ext_getElem?
  intro j
  by_cases hj : j ∈ vs
  · have e : ∀ (τ : St) (ws : List Nat), j ∈ ws → (L2.wipe τ ws)[j]? = if j < τ.length then some none else none := by
      intro τ ws
      induction ws with
      | nil => intro z; cases z
      | cons w ws ih =>
        intro z
        unfold L2.wipe
        by_cases hw : w = j
        · subst hw
          by_cases l : w < τ.length
          · rw [List.getElem?_set_self (by rw [wipe_length]; exact l), if_pos l]
          · rw [List.getElem?_eq_none (by rw [List.length_set, wipe_length]; omega), if_neg l]
        · rw [List.getElem?_set_ne hw]
          exact ih ((List.mem_cons.mp z).resolve_left (fun q => hw q.symm))
    rw [e σ' vs hj, e σ vs hj, h.1, wipe_length]
  · rw [wipe_out hj, h.2 j (fun z => hj (hs j z))]
def gB (X : Cx) (scope : Scope) (tg : Expr) : TG := fun v σ H Q => ∀ (s : Shared) (H0 : Hp) (C : Addr) (cl : List (Str × Addr)) (fp : List Addr), wg (X.blk s H0 scope (compEnvC scope cl C X.env) fp) tg v σ H Q
def tsB (X : Cx) (scope : Scope) (ifs : List Expr) : TT := fun σ H Q => ∀ (s : Shared) (H0 : Hp) (C : Addr) (cl : List (Str × Addr)) (fp : List Addr), wts (X.blk s H0 scope (compEnvC scope cl C X.env) fp) ifs σ H Q
def eB (X : Cx) (scope : Scope) (elt : Expr) : TE := fun σ H Q => ∀ (s : Shared) (H0 : Hp) (C : Addr) (cl : List (Str × Addr)) (fp : List Addr), we (X.blk s H0 scope (compEnvC scope cl C X.env) fp) elt σ H Q
section
variable {X : Cx} {W : WX} {elt tg iter : Expr} {ifs : List Expr} {scope : Scope} {own : List (Str × Nat)} {pos : Pos} {is : List Nat} {f : M (List D)} {g : D → Env → Option Env} {t : M Bool} {e : M D}
theorem lcG_at {m : Mk} {e : M (D × Ob)}
    (hg : ∀ (s : Shared) (H : Hp) (C : Addr) (cl : List (Str × Addr)) (fp : List Addr), GV (X.blk s H scope (compEnvC scope cl C X.env) fp) tg is g)
    (ht : ∀ (s : Shared) (H : Hp) (C : Addr) (cl : List (Str × Addr)) (fp : List Addr), ETs (X.blk s H scope (compEnvC scope cl C X.env) fp) W0 ifs t)
    (he : ∀ (s : Shared) (H : Hp) (C : Addr) (cl : List (Str × Addr)) (fp : List Addr), EO (X.blk s H scope (compEnvC scope cl C X.env) fp) W0 elt e)
    (his : ∀ i ∈ is, i ∈ own.map (·.2)) {F : Fr} {ρ : Env} {σ : St} {B H : Hp} {Q : VK} (hi : ∀ R, Post X W F σ B (f ρ) (fun ds _ B' H' => ∀ J, ItOk X.K J B' ds → R J H') → wi X tg iter σ H R) (L : Lv X.K F ρ σ B H)
    (P : Post X W F σ B (mLcD (own.map (·.2)) m f g t e ρ) (fun p ρ' B' H' => ∀ v, VO X.K F ρ' σ B' H' v p.1 p.2 → Q v H')) : tLc (wi X tg iter) (gB X scope tg) (tsB X scope ifs) (eB X scope elt) (own.map (·.2)) σ H Q := by
  generalize hvs : own.map (·.2) = vs at *
  refine hi _ ((Post.bind P).imp fun ds ρ1 B1 H1 e1 L1 P1 J hJ Dl hD => ?_)
  have Lw : Lv X.K F (wipeE ρ1 vs) (L2.wipe σ vs) B1 H1 := L1.wipe vs
  -- what is wanted of the block's outcome
  let PC : Rs (List D) → Prop := fun r => match r with
    | .ok acc ρ2 => ∀ B' H', Ex B1 B' → Lv X.K F (wipeE ρ2 vs) σ B' H' → ∀ v, VO X.K F (wipeE ρ2 vs) σ B' H' v (.lst acc) (.dp (.l m)) → Q v H'
    | _ => False
  have PC0 : PC (mLcG vs g t e m ds [] (wipeE ρ1 vs)) := by
    have P2 : Post X W F σ B1 ((match mLcG vs g t e m ds [] (wipeE ρ1 vs) with
      | .ok acc ρ2 => .ok (.lst acc, .dp (.l m)) (wipeE ρ2 vs)
      | _ => .fail) : Rs (D × Ob)) _ := P1
    cases q : mLcG vs g t e m ds [] (wipeE ρ1 vs) with
    | ok acc ρ2 => rw [q] at P2; exact fun B' H' e' L' v w => P2 B' H' e' L' v w
    | rz c ρ2 => rw [q] at P2; exact P2.elim
    | fail => rw [q] at P2; exact P2.elim
  have nD0 : ¬ OwS X.K B1 H1 (wipeE ρ1 vs) (L2.wipe σ vs) Dl := fun z => (Lw.hidOw z).2.ne hD
  let G : Fr := ⟨B1, H1, OwS X.K B1 H1 (wipeE ρ1 vs) (L2.wipe σ vs), F.P⟩
  -- the list so far
  let IN : List D → Hp → Prop := fun r H' => ∃ ρ' B' acc xs S, Lv X.K G ρ' (L2.wipe σ vs) B' H' ∧ H' Dl = some (.lst xs) ∧ B' Dl = none ∧ Its (Tr X.K B' H' m) xs acc S ∧ (Dl :: S).Nodup ∧ (∀ a ∈ Dl :: S, (G.A a ∨ G.H0 a = none) ∧ ¬ OwS X.K B' H' ρ' (L2.wipe σ vs) a) ∧ PC (mLcG vs g t e m r acc ρ')
  have IN0 : IN ds (upd H1 Dl (.lst [])) := by
    refine ⟨wipeE ρ1 vs, B1, [], [], [], Lw.nest.allocO hD, upd_same, L1.ex.nn hD, .nil, by simp, fun a ha => ?_, PC0⟩
    rw [List.mem_singleton.mp ha]
    exact ⟨.inr hD, fun z => nD0 (z.chg Lw.nest nD0)⟩
  refine ⟨fun i k H' => k = ds.length - i ∧ i ≤ ds.length ∧ IN (ds.drop i) H', ⟨ds.length, by simp, Nat.zero_le _, IN0⟩, ?_⟩
  rintro i k H2 ⟨rfl, hi2, ρ2, B2, acc, xs, S, M2, hl, hb, fs, nd, ga, P2⟩
  by_cases hlt : i < ds.length
  · refine .inr ⟨hJ.go B2 H2 i M2.exB M2.ex hlt, IN (ds.drop (i + 1)), fun H' q => ⟨ds.length - (i + 1), by omega, rfl, hlt, q⟩, fun x H3 hy => ?_⟩
    rw [List.drop_eq_getElem_cons hlt] at P2
    have hd : ds[i]? = some ds[i] := List.getElem?_eq_getElem hlt
    generalize ds[i] = d at *
    generalize ds.drop (i + 1) = r at *
    have fin : ∀ (B3 : Hp), Ex B2 B3 → Lv X.K G ρ2 (L2.wipe σ vs) B3 H3 → H3 Dl = some (.lst xs) → B3 Dl = none → Its (Tr X.K B3 H3 m) xs acc S → (∀ a ∈ Dl :: S, ¬ OwS X.K B3 H3 ρ2 (L2.wipe σ vs) a) → Fz X.K B3 x d →
        gB X scope tg x (L2.wipe σ vs) H3 fun σ2 H2 => L2.wipe σ2 vs = L2.wipe σ vs ∧ tsB X scope ifs σ2 H2 fun b H3 => if b = true then eB X scope elt σ2 H3 fun y H4 => ∃ acc, H4 Dl = some (.lst acc) ∧ acc.length < sizeLine ∧ IN r (upd H4 Dl (.lst (acc ++ [y]))) else IN r H3 := by
      intro B3 e3 M3 hl3 hb3 fs3 no fx s0 H0 C0 cl0 fp0
      have N3 := M3.nest
      refine hg s0 H0 C0 cl0 fp0 _ ρ2 _ B3 H3 x d _ N3 fx ?_
      have P3 : PC (match g d ρ2 with
        | none => .fail
        | some ρ1 => M.bind (mNoR t) (fun k => match k with
          | false => fun ρ2 => mLcG vs g t e m r acc (wipeE ρ2 vs)
          | true => M.bind (mNoR e) fun y ρ2 => if acc.length < 10000 ∧ obMk y.2 y.1 = some m then mLcG vs g t e m r (acc ++ [y.1]) (wipeE ρ2 vs) else .fail) ρ1) := by
        have P2' := P2
        unfold mLcG at P2'
        exact P2'
      -- what the list so far holds is there
      have thr : ∀ a ∈ Dl :: S, B3 a = none ∧ Ct H3 a := fun a ha => by
        rcases List.mem_cons.mp ha with rfl | ha
        · exact ⟨hb3, .of hl3 fun _ z => nomatch z⟩
        · exact fs3.all (fun v d T r => Tr.hid r) a ha
      cases q : g d ρ2 with
      | none => rw [q] at P3; exact P3.elim
      | some ρ3 =>
        rw [q] at P3
        intro σ4 B4 H4 on4 e4 N4
        have hw : L2.wipe σ4 vs = L2.wipe σ vs := by rw [wipe_onl (is := is) on4 his]
        -- behind the element: wiped, back in the frame
        have back : ∀ {ρ5 : Env} {B5 H5 : Hp}, Lv X.K ⟨B3, H3, OwS X.K B3 H3 ρ2 (L2.wipe σ vs), F.P⟩ ρ5 σ4 B5 H5 → Lv X.K G (wipeE ρ5 vs) (L2.wipe σ vs) B5 H5 ∧ H5 Dl = some (.lst xs) ∧ B5 Dl = none ∧ Its (Tr X.K B5 H5 m) xs acc S ∧ ∀ a ∈ Dl :: S, ¬ OwS X.K B5 H5 (wipeE ρ5 vs) (L2.wipe σ vs) a := by
          intro ρ5 B5 H5 N5
          have M5 := M3.back N5
          have M6 := M5.wipe vs
          rw [hw] at M6
          have kp : ∀ a ∈ Dl :: S, B5 a = none ∧ ∀ o, H3 a = some o → H5 a = some o := fun a ha => ⟨N5.hid a (thr a ha).1 (thr a ha).2 (no a ha), fun o q => N5.kept a o q (no a ha)⟩
          refine ⟨M6, (kp Dl (by simp)).2 _ hl3, (kp Dl (by simp)).1, fs3.imp fun v d T tr sub => tr.keep N5.exB (fun a ha => (kp a (List.mem_cons_of_mem _ (sub a ha))).1) (fun a ha => (kp a (List.mem_cons_of_mem _ (sub a ha))).2), fun a ha ⟨j, s, v, T, e1, q1, f1, m1⟩ => ?_⟩
          rcases wipeE_get e1 with z | ⟨hj, e1⟩
          · rw [z] at f1; exact f1.elim
          · rw [← hw, wipe_out hj] at q1
            rcases N5.ofOw ⟨j, s, v, T, e1, q1, f1, m1⟩ with z | z
            · exact no a ha z
            · exact (thr a ha).2.ne z
        have PP : Post X W0 ⟨B3, H3, OwS X.K B3 H3 ρ2 (L2.wipe σ vs), F.P⟩ σ4 B4 (t ρ3) (fun k ρ5 B5 H5 => Ex B4 B5 ∧ PC ((match k with
          | false => fun ρ2 => mLcG vs g t e m r acc (wipeE ρ2 vs)
          | true => M.bind (mNoR e) fun y ρ2 => if acc.length < 10000 ∧ obMk y.2 y.1 = some m then mLcG vs g t e m r (acc ++ [y.1]) (wipeE ρ2 vs) else .fail) ρ5)) := by
          have P4 : PC (M.bind (mNoR t) _ ρ3) := P3
          unfold M.bind mNoR at P4
          cases q2 : t ρ3 with
          | ok k ρ5 => rw [q2] at P4; exact fun B' H' e' _ => ⟨e', P4⟩
          | rz c ρ5 => rw [q2] at P4; exact P4.elim
          | fail => rw [q2] at P4; exact P4.elim
        refine ⟨hw, fun s1 H01 C1 cl1 fp1 => ht s1 H01 C1 cl1 fp1 _ ρ3 σ4 B4 H4 _ N4 (PP.imp fun k ρ5 B5 H5 e5 N5 ⟨_, P5⟩ => ?_)⟩
        cases k with
        | false =>
          rw [if_neg Bool.false_ne_true]
          obtain ⟨M6, h6, b6, t6, n6⟩ := back N5
          exact ⟨wipeE ρ5 vs, B5, acc, xs, S, M6, h6, b6, t6, nd, fun a ha => ⟨(ga a ha).1, n6 a ha⟩, P5⟩
        | true =>
          rw [if_pos rfl]
          have PE5 : Post X W0 ⟨B3, H3, OwS X.K B3 H3 ρ2 (L2.wipe σ vs), F.P⟩ σ4 B5 (e ρ5) (fun y ρ6 B6 H6 => (acc.length < 10000 ∧ obMk y.2 y.1 = some m) ∧ PC (mLcG vs g t e m r (acc ++ [y.1]) (wipeE ρ6 vs))) := by
            have P6 : PC (M.bind (mNoR e) (fun y ρ2 => if acc.length < 10000 ∧ obMk y.2 y.1 = some m then mLcG vs g t e m r (acc ++ [y.1]) (wipeE ρ2 vs) else .fail) ρ5) := P5
            unfold M.bind mNoR at P6
            cases q2 : e ρ5 with
            | ok y ρ6 =>
              rw [q2] at P6
              intro B' H' e' _
              have P7 : PC (if acc.length < 10000 ∧ obMk y.2 y.1 = some m then mLcG vs g t e m r (acc ++ [y.1]) (wipeE ρ6 vs) else .fail) := P6
              split at P7
              · rename_i hh; exact ⟨hh, P7⟩
              · exact P7.elim
            | rz c ρ6 => rw [q2] at P6; exact P6.elim
            | fail => rw [q2] at P6; exact P6.elim
          intro s2 H02 C2 cl2 fp2
          refine he s2 H02 C2 cl2 fp2 _ ρ5 σ4 B5 H5 _ N5 (PE5.imp fun y ρ6 B6 H6 e6 N6 ⟨hz, P7⟩ v vo => ?_)
          obtain ⟨M6, h6, b6, t6, n6⟩ := back N6
          obtain ⟨T, tr, ndT, gT⟩ := VO.tr vo hz.2
          -- what is new is apart from the list so far
          have ap : ∀ a ∈ T, a ∉ Dl :: S := fun a ha hs => by
            rcases (gT a ha).1 with z | z
            · exact no a hs z
            · exact (thr a hs).2.ne z
          have nT : ∀ a ∈ T, ¬ OwS X.K B6 H6 (wipeE ρ6 vs) (L2.wipe σ vs) a := fun a ha ⟨j, s, u, U, e1, q1, f1, m1⟩ => by
            rcases wipeE_get e1 with z | ⟨hj, e1⟩
            · rw [z] at f1; exact f1.elim
            · rw [← hw, wipe_out hj] at q1
              exact (gT a ha).2 ⟨j, s, u, U, e1, q1, f1, m1⟩
          have nD := n6 Dl (by simp)
          have M7 := M6.hidW0 (o := .lst (xs ++ [v])) b6 (ga Dl (by simp)).1 nD
          have kD : ∀ a, a ≠ Dl → ∀ o, H6 a = some o → upd H6 Dl (.lst (xs ++ [v])) a = some o := fun a n o q => by rw [upd_ne n]; exact q
          have nd1 := List.nodup_cons.mp nd
          refine ⟨xs, h6, lt_line (by rw [t6.len]; exact hz.1), wipeE ρ6 vs, B6, acc ++ [y.1], xs ++ [v], S ++ T, M7, upd_same, b6, Its.app (t6.imp fun w d U tr sub => tr.keep (Ex.refl _) (fun a ha => (tr.hid a ha).1) (fun a ha => kD a fun z => nd1.1 (z ▸ sub a ha))) (tr.keep (Ex.refl _) (fun a ha => (tr.hid a ha).1) (fun a ha => kD a fun z => ap a ha (by rw [z]; simp))), ?_, fun a ha => ?_, P7⟩
          · rw [← List.cons_append]
            exact List.nodup_append.mpr ⟨nd, ndT, fun a ha b hb z => ap b hb (z ▸ ha)⟩
          · rw [← List.cons_append] at ha
            rcases List.mem_append.mp ha with ha | ha
            · exact ⟨(ga a ha).1, fun z => n6 a ha (z.chg M6 nD)⟩
            · refine ⟨?_, fun z => nT a ha (z.chg M6 nD)⟩
              rcases (gT a ha).1 with z | z
              · exact M3.ofOw z
              · exact .inr (M3.free z)
    rcases hJ.yld B2 H2 i x H3 _ M2.exB M2.ex hy hd with ⟨rfl, fx⟩ | ⟨p, o, hp2, rfl, fx⟩ | ⟨p, ys, hp2, hp3, rfl, fx⟩
    · exact fin B2 (Ex.refl _) M2 hl hb fs (fun a ha => (ga a ha).2) fx
    · have th : ∀ a ∈ Dl :: S, B2 a = none ∧ Ct H2 a := fun a ha => by
        rcases List.mem_cons.mp ha with rfl | ha
        · exact ⟨hb, .of hl fun _ z => nomatch z⟩
        · exact fs.all (fun v d T r => Tr.hid r) a ha
      have np : ∀ a ∈ Dl :: S, a ≠ p := fun a ha z => (th a ha).2.ne (z ▸ hp2)
      have npo : ¬ OwS X.K B2 H2 ρ2 (L2.wipe σ vs) p := fun z => (M2.hidOw z).2.ne hp2
      have nB := M2.ex.nn hp2
      refine fin _ (Ex.new nB) (M2.alloc hp2) (by rw [upd_ne (np Dl (by simp))]; exact hl) (by rw [upd_ne (np Dl (by simp))]; exact hb) (fs.imp fun v d T tr sub => tr.keep (Ex.new nB) (fun a ha => by rw [upd_ne (np a (List.mem_cons_of_mem _ (sub a ha)))]; exact (tr.hid a ha).1) (fun a ha o q => by rw [upd_ne (np a (List.mem_cons_of_mem _ (sub a ha)))]; exact q)) (fun a ha z => (ga a ha).2 (z.back M2 (Ex.new nB) fun b w => ?_)) fx
      have nbp : b ≠ p := fun z => npo (z ▸ w)
      exact ⟨by rw [upd_ne nbp]; exact (M2.hidOw w).1, fun u q => by rw [upd_ne nbp]; exact q⟩
    · have th : ∀ a ∈ Dl :: S, B2 a = none ∧ Ct H3 a := fun a ha => by
        rcases List.mem_cons.mp ha with rfl | ha
        · exact ⟨hb, .of hl fun _ z => nomatch z⟩
        · exact fs.all (fun v d T r => Tr.hid r) a ha
      have nt : ∀ a, Ct H3 a → a ≠ p := fun a ⟨u, h1, h2⟩ z => by subst z; rw [hp2] at h1; injection h1 with h1; exact h2 _ h1.symm
      have np : ∀ a ∈ Dl :: S, a ≠ p := fun a ha => nt a (th a ha).2
      refine fin _ (Ex.new hp3) (M2.freezeT hp2 hp3) hl (by rw [upd_ne (np Dl (by simp))]; exact hb) (fs.imp fun v d T tr sub => tr.keep (Ex.new hp3) (fun a ha => by rw [upd_ne (np a (List.mem_cons_of_mem _ (sub a ha)))]; exact (tr.hid a ha).1) (fun a ha o q => q)) (fun a ha z => (ga a ha).2 (z.back M2 (Ex.new hp3) fun b w => ?_)) fx
      exact ⟨by rw [upd_ne (nt b (M2.hidOw w).2)]; exact (M2.hidOw w).1, fun u q => q⟩
  · have ei : i = ds.length := by omega
    subst ei
    rw [List.drop_length] at P2
    refine .inl ⟨hJ.stop B2 H2 _ M2.exB M2.ex (Nat.le_refl _), ?_⟩
    have M3 := Lw.back M2
    have M4 := M3.unwipe
    refine P2 B2 H2 M2.exB M4 _ ⟨Dl :: S, ?_, nd, fun a ha => ⟨?_, fun ⟨j, s, v, T, e1, q1, f1, m1⟩ => ?_⟩⟩
    · unfold Tr; exact ⟨Dl, xs, acc, S, rfl, rfl, hb, hl, fs, rfl⟩
    · rcases (ga a ha).1 with z | z
      · exact Lw.ofOw z
      · exact .inr (Lw.free z)
    · rcases wipeE_get e1 with z | ⟨hj, e1⟩
      · rw [z] at f1; exact f1.elim
      · rw [← wipe_out hj] at q1
        exact (ga a ha).2 ⟨j, s, v, T, e1, q1, f1, m1⟩
theorem lcG_read {m : Mk} {e : M (D × Ob)} (hi : IV X W tg iter f)
    (hg : ∀ (s : Shared) (H : Hp) (C : Addr) (cl : List (Str × Addr)) (fp : List Addr), GV (X.blk s H scope (compEnvC scope cl C X.env) fp) tg is g)
    (ht : ∀ (s : Shared) (H : Hp) (C : Addr) (cl : List (Str × Addr)) (fp : List Addr), ETs (X.blk s H scope (compEnvC scope cl C X.env) fp) W0 ifs t)
    (he : ∀ (s : Shared) (H : Hp) (C : Addr) (cl : List (Str × Addr)) (fp : List Addr), EO (X.blk s H scope (compEnvC scope cl C X.env) fp) W0 elt e)
    (his : ∀ i ∈ is, i ∈ own.map (·.2)) {F : Fr} {ρ : Env} {σ : St} {B H : Hp} {Q : VK} (L : Lv X.K F ρ σ B H)
    (P : Post X W F σ B (mLcD (own.map (·.2)) m f g t e ρ) (fun p ρ' B' H' => ∀ v, VO X.K F ρ' σ B' H' v p.1 p.2 → Q v H')) : tLc (wi X tg iter) (gB X scope tg) (tsB X scope ifs) (eB X scope elt) (own.map (·.2)) σ H Q :=
  lcG_at hg ht he his (fun R P => hi F ρ σ B H R L P) L P
theorem lc_at
    (hg : ∀ (s : Shared) (H : Hp) (C : Addr) (cl : List (Str × Addr)) (fp : List Addr), GV (X.blk s H scope (compEnvC scope cl C X.env) fp) tg is g)
    (ht : ∀ (s : Shared) (H : Hp) (C : Addr) (cl : List (Str × Addr)) (fp : List Addr), ETs (X.blk s H scope (compEnvC scope cl C X.env) fp) W0 ifs t)
    (he : ∀ (s : Shared) (H : Hp) (C : Addr) (cl : List (Str × Addr)) (fp : List Addr), EV (X.blk s H scope (compEnvC scope cl C X.env) fp) W0 elt e)
    (his : ∀ i ∈ is, i ∈ own.map (·.2)) {F : Fr} {ρ : Env} {σ : St} {B H : Hp} {Q : VK} (hi : ∀ R, Post X W F σ B (f ρ) (fun ds _ B' H' => ∀ J, ItOk X.K J B' ds → R J H') → wi X tg iter σ H R) (L : Lv X.K F ρ σ B H)
    (P : Post X W F σ B (mLc (own.map (·.2)) f g t e ρ) (fun p ρ' B' H' => ∀ v, VO X.K F ρ' σ B' H' v p.1 p.2 → Q v H')) : tLc (wi X tg iter) (gB X scope tg) (tsB X scope ifs) (eB X scope elt) (own.map (·.2)) σ H Q := by
  refine lcG_at (m := .z) (e := mOf e) hg ht (fun s H C cl fp => eo_of (he s H C cl fp)) his hi L ?_
  unfold mLc M.bind at P
  unfold mLcD M.bind
  cases q : f ρ with
  | fail => rw [q] at P; exact P.elim
  | rz c ρ1 => rw [q] at P; exact P
  | ok ds ρ1 =>
    rw [q] at P
    simp only [mLcG_z] at P ⊢
    cases q2 : mLcL (own.map (·.2)) g t e ds [] (wipeE ρ1 (own.map (·.2))) with
    | ok acc ρ2 => rw [q2] at P; exact fun B' H' e' L' v w => P B' H' e' L' v w.flat
    | rz c ρ2 => rw [q2] at P; exact P.elim
    | fail => rw [q2] at P; exact P.elim
theorem lc_read (hi : IV X W tg iter f)
    (hg : ∀ (s : Shared) (H : Hp) (C : Addr) (cl : List (Str × Addr)) (fp : List Addr), GV (X.blk s H scope (compEnvC scope cl C X.env) fp) tg is g)
    (ht : ∀ (s : Shared) (H : Hp) (C : Addr) (cl : List (Str × Addr)) (fp : List Addr), ETs (X.blk s H scope (compEnvC scope cl C X.env) fp) W0 ifs t)
    (he : ∀ (s : Shared) (H : Hp) (C : Addr) (cl : List (Str × Addr)) (fp : List Addr), EV (X.blk s H scope (compEnvC scope cl C X.env) fp) W0 elt e)
    (his : ∀ i ∈ is, i ∈ own.map (·.2)) {F : Fr} {ρ : Env} {σ : St} {B H : Hp} {Q : VK} (L : Lv X.K F ρ σ B H)
    (P : Post X W F σ B (mLc (own.map (·.2)) f g t e ρ) (fun p ρ' B' H' => ∀ v, VO X.K F ρ' σ B' H' v p.1 p.2 → Q v H')) : tLc (wi X tg iter) (gB X scope tg) (tsB X scope ifs) (eB X scope elt) (own.map (·.2)) σ H Q :=
  lc_at hg ht he his (fun R P => hi F ρ σ B H R L P) L P
theorem eo_lc (hc : X.calm = true) (hN : X.N.Nodup) (hi : IV X W tg iter f) (ok : BlkOk X.N X.env.scope scope own)
    (hg : ∀ (s : Shared) (H : Hp) (C : Addr) (cl : List (Str × Addr)) (fp : List Addr), GV (X.blk s H scope (compEnvC scope cl C X.env) fp) tg is g)
    (ht : ∀ (s : Shared) (H : Hp) (C : Addr) (cl : List (Str × Addr)) (fp : List Addr), ETs (X.blk s H scope (compEnvC scope cl C X.env) fp) W0 ifs t)
    (he : ∀ (s : Shared) (H : Hp) (C : Addr) (cl : List (Str × Addr)) (fp : List Addr), EV (X.blk s H scope (compEnvC scope cl C X.env) fp) W0 elt e)
    (his : ∀ i ∈ is, i ∈ own.map (·.2) := by decide) (hs : ∀ x, foldedSetIterable iter X.env x = pure x := by intro _; rfl) : EO X W (.ListComp elt [⟨tg, iter, ifs, 0⟩] scope pos) (mLc (own.map (·.2)) f g t e) := by
  intro F ρ σ B H Q L P
  exact PE.we (pe_lc (g := gB X scope tg) (tt := tsB X scope ifs) (te := eB X scope elt) hc hN pi_wi ok (fun s H0 C cl fp => ⟨fun pins s' σ H v u Q I r h => Wg.run (h s H0 C cl fp) pins s' u I r⟩) (fun s H0 C cl fp => ⟨fun pins s' σ H Q I h => Wts.run (h s H0 C cl fp) pins s' I⟩) (fun s H0 C cl fp => ⟨fun pins s' σ H Q I h => We.run (h s H0 C cl fp) pins s' I⟩) hs) (lc_read hi hg ht he his L P)
theorem sv_setLc {i : Nat} {y : Str} {py spos : Pos} (hc : X.calm = true) (hN : X.N.Nodup) (hi : IV X W tg iter f) (ok : BlkOk X.N X.env.scope scope own)
    (hg : ∀ (s : Shared) (H : Hp) (C : Addr) (cl : List (Str × Addr)) (fp : List Addr), GV (X.blk s H scope (compEnvC scope cl C X.env) fp) tg is g)
    (ht : ∀ (s : Shared) (H : Hp) (C : Addr) (cl : List (Str × Addr)) (fp : List Addr), ETs (X.blk s H scope (compEnvC scope cl C X.env) fp) W0 ifs t)
    (he : ∀ (s : Shared) (H : Hp) (C : Addr) (cl : List (Str × Addr)) (fp : List Addr), EV (X.blk s H scope (compEnvC scope cl C X.env) fp) W0 elt e)
    (hsw : swapsWith (.ListComp elt [⟨tg, iter, ifs, 0⟩] scope pos) (some (.Name y py)) spos.line X.env = pure true)
    (hy : X.N[i]? = some y := by rfl) (hyl : X.env.scope.names.lookup y = some .local := by rfl)
    (his : ∀ i ∈ is, i ∈ own.map (·.2) := by decide) (hs : ∀ x, foldedSetIterable iter X.env x = pure x := by intro _; rfl) : SV X W (.Assign [.Name y py] (.ListComp elt [⟨tg, iter, ifs, 0⟩] scope pos) spos) (mSet i (mLc (own.map (·.2)) f g t e)) := by
  intro F ρ σ B H N L P
  refine PS.ws (ps_setLc (g := gB X scope tg) (tt := tsB X scope ifs) (te := eB X scope elt) hc hN hy hyl hsw pi_wi ok (fun s H0 C cl fp => ⟨fun pins s' σ H v u Q I r h => Wg.run (h s H0 C cl fp) pins s' u I r⟩) (fun s H0 C cl fp => ⟨fun pins s' σ H Q I h => Wts.run (h s H0 C cl fp) pins s' I⟩) (fun s H0 C cl fp => ⟨fun pins s' σ H Q I h => We.run (h s H0 C cl fp) pins s' I⟩) hs) ?_
  exact lc_read hi hg ht he his L ((PostS.bind P).imp fun p ρ1 B1 H1 e1 L1 P1 v w => P1.put L1 w)
theorem eo_lcD {m : Mk} {e : M (D × Ob)} (hc : X.calm = true) (hN : X.N.Nodup) (hi : IV X W tg iter f) (ok : BlkOk X.N X.env.scope scope own)
    (hg : ∀ (s : Shared) (H : Hp) (C : Addr) (cl : List (Str × Addr)) (fp : List Addr), GV (X.blk s H scope (compEnvC scope cl C X.env) fp) tg is g)
    (ht : ∀ (s : Shared) (H : Hp) (C : Addr) (cl : List (Str × Addr)) (fp : List Addr), ETs (X.blk s H scope (compEnvC scope cl C X.env) fp) W0 ifs t)
    (he : ∀ (s : Shared) (H : Hp) (C : Addr) (cl : List (Str × Addr)) (fp : List Addr), EO (X.blk s H scope (compEnvC scope cl C X.env) fp) W0 elt e)
    (his : ∀ i ∈ is, i ∈ own.map (·.2) := by decide) (hs : ∀ x, foldedSetIterable iter X.env x = pure x := by intro _; rfl) : EO X W (.ListComp elt [⟨tg, iter, ifs, 0⟩] scope pos) (mLcD (own.map (·.2)) m f g t e) := by
  intro F ρ σ B H Q L P
  exact PE.we (pe_lc (g := gB X scope tg) (tt := tsB X scope ifs) (te := eB X scope elt) hc hN pi_wi ok (fun s H0 C cl fp => ⟨fun pins s' σ H v u Q I r h => Wg.run (h s H0 C cl fp) pins s' u I r⟩) (fun s H0 C cl fp => ⟨fun pins s' σ H Q I h => Wts.run (h s H0 C cl fp) pins s' I⟩) (fun s H0 C cl fp => ⟨fun pins s' σ H Q I h => We.run (h s H0 C cl fp) pins s' I⟩) hs) (lcG_read hi hg ht he his L P)
theorem sv_setLcD {m : Mk} {e : M (D × Ob)} {i : Nat} {y : Str} {py spos : Pos} (hc : X.calm = true) (hN : X.N.Nodup) (hi : IV X W tg iter f) (ok : BlkOk X.N X.env.scope scope own)
    (hg : ∀ (s : Shared) (H : Hp) (C : Addr) (cl : List (Str × Addr)) (fp : List Addr), GV (X.blk s H scope (compEnvC scope cl C X.env) fp) tg is g)
    (ht : ∀ (s : Shared) (H : Hp) (C : Addr) (cl : List (Str × Addr)) (fp : List Addr), ETs (X.blk s H scope (compEnvC scope cl C X.env) fp) W0 ifs t)
    (he : ∀ (s : Shared) (H : Hp) (C : Addr) (cl : List (Str × Addr)) (fp : List Addr), EO (X.blk s H scope (compEnvC scope cl C X.env) fp) W0 elt e)
    (hsw : swapsWith (.ListComp elt [⟨tg, iter, ifs, 0⟩] scope pos) (some (.Name y py)) spos.line X.env = pure true)
    (hy : X.N[i]? = some y := by rfl) (hyl : X.env.scope.names.lookup y = some .local := by rfl)
    (his : ∀ i ∈ is, i ∈ own.map (·.2) := by decide) (hs : ∀ x, foldedSetIterable iter X.env x = pure x := by intro _; rfl) : SV X W (.Assign [.Name y py] (.ListComp elt [⟨tg, iter, ifs, 0⟩] scope pos) spos) (mSet i (mLcD (own.map (·.2)) m f g t e)) := by
  intro F ρ σ B H N L P
  refine PS.ws (ps_setLc (g := gB X scope tg) (tt := tsB X scope ifs) (te := eB X scope elt) hc hN hy hyl hsw pi_wi ok (fun s H0 C cl fp => ⟨fun pins s' σ H v u Q I r h => Wg.run (h s H0 C cl fp) pins s' u I r⟩) (fun s H0 C cl fp => ⟨fun pins s' σ H Q I h => Wts.run (h s H0 C cl fp) pins s' I⟩) (fun s H0 C cl fp => ⟨fun pins s' σ H Q I h => We.run (h s H0 C cl fp) pins s' I⟩) hs) ?_
  exact lcG_read hi hg ht he his L ((PostS.bind P).imp fun p ρ1 B1 H1 e1 L1 P1 v w => P1.put L1 w)
end
end Dt
namespace Dt
open PySem PySem.Spec PyProof.Rows L2
section
variable {X : Cx} {W : WX} {e a b c : Expr} {pos : Pos} {K : PySem.W.Frag}
def CnIn (K : PySem.W.Frag) (mg : Str → Option Value) (x : Str) (d : D) : Prop := ∃ u v, mg x = some u ∧ RelV v u ∧ ∀ B, Fz K B v d
theorem ev_const {x : Str} {d : D} (T : CnIn X.K X.mg x d) (hg : Gl X x := by rfl) (hd : (x == ("__debug__" : Str)) = false := by decide) : EV X W (.Name x pos) (M.pure d) := by
  obtain ⟨u, v, hm, r, hf⟩ := T
  exact ev_glob hg hm r hf hd
theorem cn_int {mg : Str → Option Value} {x : Str} {i : Int} {t : Tok} (h : mg x = some (.int i t)) : CnIn K mg x (.int i) := ⟨_, .int i, h, ⟨t, rfl⟩, fun _ => .int i⟩
theorem cn_str {mg : Str → Option Value} {x s : Str} {t : Tok} (h : mg x = some (.str s t)) : CnIn K mg x (.str s) := ⟨_, .str s, h, ⟨t, rfl⟩, fun _ => .str s⟩
inductive Flats : List Value → List D → Prop
  | nil : Flats [] []
  | int {i : Int} {t : Tok} {us : List Value} {ds : List D} : Flats us ds → Flats (.int i t :: us) (.int i :: ds)
  | str {x : Str} {t : Tok} {us : List Value} {ds : List D} : Flats us ds → Flats (.str x t :: us) (.str x :: ds)
theorem Flats.go {K : PySem.W.Frag} : ∀ {us : List Value} {ds : List D}, Flats us ds → ∃ vs, Vals vs us ∧ ∀ B, Fzs K B vs ds
  | _, _, .nil => ⟨[], .nil, fun _ => .nil⟩
  | _, _, .int (i := i) (t := t) r => by
    obtain ⟨vs, h1, h2⟩ := Flats.go (K := K) r
    exact ⟨.int i :: vs, .cons ⟨t, rfl⟩ h1, fun B => .cons (.int i) (h2 B)⟩
  | _, _, .str (x := x) (t := t) r => by
    obtain ⟨vs, h1, h2⟩ := Flats.go (K := K) r
    exact ⟨.str x :: vs, .cons ⟨t, rfl⟩ h1, fun B => .cons (.str x) (h2 B)⟩
theorem cn_tup {mg : Str → Option Value} {x : Str} {p : Addr} {od : Option Addr} {us : List Value} {n : Nat} {sl : Array (Option Value)} {ds : List D} (h : mg x = some (.ref p)) (l : K.lookup p = some ⟨.type "tuple", od, .seq us.toArray n, sl⟩) (hz : us.length ≤ 1000) (fl : Flats us ds) : CnIn K mg x (.tup ds) := by
  obtain ⟨vs, h1, h2⟩ := Flats.go (K := K) fl
  exact ⟨_, .ref p, h, rfl, fun B => .tup (.inr ⟨_, us.toArray, n, l, rfl, rfl, by rw [List.size_toArray]; exact Nat.le_trans hz (by decide), by simpa using h1⟩) (h2 B)⟩
theorem ev_chain {op op' : CmpOp} {r r' : R2} {g g' : D → D → Option D} {f1 f2 f3 : M D} (ho : OpR X (compareOp op) r) (hr : OpD X.K r g) (ho' : OpR X (compareOp op') r') (hr' : OpD X.K r' g') (ha : EV X W a f1) (hb : EV X W b f2) (hc : EV X W c f3)
    (hm : lastMarks [op, op'] [b, c] = false := by with_unfolding_all rfl) : EV X W (.Compare a [op, op'] [b, c] pos) (mChain g g' f1 f2 f3) := by
  intro F ρ σ B H Q L P
  refine PE.we (pe_chain ho ho' pe_we pe_we pe_we hm) ?_
  refine ha F ρ σ B H _ L ((Post.bind P).imp fun dx ρ1 B1 H1 e1 L1 P1 x fx => ?_)
  refine hb F ρ1 σ B1 H1 _ L1 ((Post.bind P1).imp fun dy ρ2 B2 H2 e2 L2 P2 y fy => ?_)
  obtain ⟨z, hz, k⟩ := (Post.bind P2).opt
  refine hr x y dx dy z B2 H2 _ L2.ex (fx.mono e2) fy hz (L2.grow fun B' H' e' L' v fv => ?_)
  have P3 := k B' H' e' L'
  split at P3
  · cases fv
    refine ⟨true, rfl, ?_⟩
    rw [if_pos rfl]
    refine hc F ρ2 σ B' H' _ L' ((Post.bind P3).imp fun dw ρ3 B3 H3 e3 L3 P4 w fw => ?_)
    obtain ⟨d, hd, k2⟩ := P4.opt
    exact hr' y w dy dw d B3 H3 Q L3.ex ((fy.mono e').mono e3) fw hd (L3.grow k2)
  · cases fv
    refine ⟨false, rfl, ?_⟩
    rw [if_neg Bool.false_ne_true]
    exact P3 B' H' (Ex.refl _) L' _ (.bl false)
  · exact P3.elim
def cutD (xs : List D) (lo hi : Option Int) : List D := (xs.drop (HT.sIx xs.length 0 lo)).take (HT.sIx xs.length xs.length hi - HT.sIx xs.length 0 lo)
theorem Fzs.cut {B : Hp} {vs : List V} {ds : List D} (h : Fzs K B vs ds) (lo hi : Option Int) : Fzs K B (cutV vs lo hi) (cutD ds lo hi) := by
  unfold cutV cutD
  rw [h.len]
  exact (h.drop _).take _
def asOI : Option D → Option (Option Int)
  | none => some none
  | some (.int i) => some (some i)
  | some _ => none
def mPart (f : Option (M D)) : M (Option Int) := match f with
  | none => M.pure none
  | some f => M.bind f fun d => M.opt (match d with
    | .int i => some (some i)
    | _ => none)
def EP' (X : Cx) (W : WX) (e : Option Expr) (f : M (Option Int)) : Prop := ∃ t, PO X e t ∧ ∀ (F : Fr) (ρ : Env) (σ : St) (B H : Hp) (Q : Option Int → Hp → Prop), Lv X.K F ρ σ B H → Post X W F σ B (f ρ) (fun o _ _ H' => Q o H') → t σ H Q
theorem ep_none : EP' X W none (mPart none) := ⟨_, po_none, fun F ρ σ B H Q L P => P B H (Ex.refl _) L⟩
theorem ep_some {f : M D} (h : EV X W e f) : EP' X W (some e) (mPart (some f)) := ⟨_, po_some pe_we, fun F ρ σ B H Q L P => by
  refine h F ρ σ B H _ L ((Post.bind P).imp fun d ρ1 B1 H1 e1 L1 P1 v fv => ?_)
  obtain ⟨o, ho, k⟩ := P1.opt
  split at ho
  · cases fv
    injection ho with ho; subst ho
    exact ⟨_, rfl, k B1 H1 (Ex.refl _) L1⟩
  · cases ho⟩
def dSl (d : D) (lo hi : Option Int) : Option (D × Ob) := match d with
  | .lst xs => some (.lst (cutD xs lo hi), .tt)
  | .tup xs => some (.tup (cutD xs lo hi), .ff)
  | _ => none
def mSl (f : M D) (fl fh : M (Option Int)) : M (D × Ob) := M.bind f fun d => M.bind fl fun lo => M.bind fh fun hi => M.opt (dSl d lo hi)
theorem cut_all {xs : List D} {lo hi : Option Int} (h : HT.sIx xs.length 0 lo = 0 ∧ HT.sIx xs.length xs.length hi = xs.length) : cutD xs lo hi = xs := by
  unfold cutD
  rw [h.1, h.2, List.drop_zero, Nat.sub_zero, List.take_length]
theorem eo_slice {lo hi : Option Expr} {p2 : Pos} {f : M D} {fl fh : M (Option Int)} (he : EV X W e f) (hl : EP' X W lo fl) (hh : EP' X W hi fh) : EO X W (.Subscript e (.Slice lo hi none p2) pos) (mSl f fl fh) := by
  obtain ⟨tl, pl, hl⟩ := hl
  obtain ⟨th, ph, hh⟩ := hh
  intro F ρ σ B H Q L P
  refine PE.we (pe_slice (sl_list.or sl_tupA) pe_we pl ph) ?_
  refine he F ρ σ B H _ L ((Post.bind P).imp fun d ρ1 B1 H1 e1 L1 P1 v fv => ?_)
  refine hl F ρ1 σ B1 H1 _ L1 ((Post.bind P1).imp fun l ρ2 B2 H2 e2 L2 P2 => ?_)
  refine hh F ρ2 σ B2 H2 _ L2 ((Post.bind P2).imp fun u ρ3 B3 H3 e3 L3 P3 => ?_)
  obtain ⟨p, hp, k⟩ := P3.opt
  have fv3 := (fv.mono e2).mono e3
  cases fv3 with
  | @lst a xs ds h fs =>
    injection hp with hp; subst hp
    refine .inl ⟨a, xs, rfl, .inl (.inl (L3.ex _ _ h)), fun q hq => ?_⟩
    obtain ⟨L4, v4⟩ := L3.newL hq (fs.cut l u)
    exact k B3 _ (Ex.refl _) L4 _ v4
  | @tup a xs ds h fs =>
    injection hp with hp; subst hp
    refine .inr ⟨a, xs, rfl, L3.ex.st h, fun hw => ?_, fun _ q hq => ?_⟩
    · have e : cutD ds l u = ds := cut_all (by rw [← fs.len]; exact hw)
      rw [e] at k
      exact k B3 H3 (Ex.refl _) L3 _ (show Fz X.K B3 (.ref a) (.tup ds) from .tup h fs)
    · exact k _ _ (Ex.new (L3.ex.nn hq)) (L3.alloc hq) _ (show Fz X.K _ (.ref q) _ from .tup (.inl (.inl upd_same)) ((fs.cut l u).mono (Ex.new (L3.ex.nn hq))))
  | _ => cases hp
def mRevL (f : M D) : M (D × Ob) := M.bind f fun d => M.opt (match d with
  | .lst xs => some (.lst xs.reverse, .tt)
  | _ => none)
theorem eo_revL {f : M D} {k : Nat} {p1 p2 p3 : Pos} (he : EV X W e f) : EO X W (.Subscript e (.Slice none none (some (.UnaryOp .USub (.Constant (.int 1) k p1) p2)) p3) pos) (mRevL f) := by
  intro F ρ σ B H Q L P
  refine PE.we (pe_revL pe_we) ?_
  refine he F ρ σ B H _ L ((Post.bind P).imp fun d ρ1 B1 H1 e1 L1 P1 v fv => ?_)
  obtain ⟨p, hp, kk⟩ := P1.opt
  cases fv with
  | @lst a xs ds h fs =>
    injection hp with hp; subst hp
    refine ⟨a, xs, rfl, .inl (.inl (L1.ex _ _ h)), fun q hq => ?_⟩
    obtain ⟨L4, v4⟩ := L1.newL hq fs.reverse
    exact kk B1 _ (Ex.refl _) L4 _ v4
  | _ => cases hp
variable {tg : Expr}
def mZip (f : M (List D)) : M (List D) := M.bind f fun ds => M.opt (match ds with
  | [.lst xs, .lst ys] => some (List.zipWith (fun x y => D.tup [x, y]) xs ys)
  | _ => none)
theorem it_zip {p q : Addr} {xs ys : List V} {B : Hp} {ds es : List D} (h1 : B p = some (.lst xs)) (f1 : Fzs K B xs ds) (h2 : B q = some (.lst ys)) (f2 : Fzs K B ys es) : ItOk K (Itz K p q) B (List.zipWith (fun x y => D.tup [x, y]) ds es) where
  go := fun B' H' i e1 e2 hi => by
    rw [List.length_zipWith] at hi
    have hi1 : i < xs.length := by rw [f1.len]; omega
    have hi2 : i < ys.length := by rw [f2.len]; omega
    exact ⟨xs, ys, xs[i], ys[i], .inl (.inl (e2 _ _ (e1 _ _ h1))), .inl (.inl (e2 _ _ (e1 _ _ h2))), List.getElem?_eq_getElem hi1, List.getElem?_eq_getElem hi2⟩
  stop := fun B' H' i e1 e2 hi => by
    rw [List.length_zipWith] at hi
    refine ⟨xs, ys, .inl (.inl (e2 _ _ (e1 _ _ h1))), .inl (.inl (e2 _ _ (e1 _ _ h2))), ?_⟩
    rw [f1.len, f2.len]; omega
  yld := fun B' H' i x H3 d e1 e2 y hd => by
    obtain ⟨T, u, v, rfl, hT, rfl, hu, hv⟩ := y
    have h3 := hu xs (.inl (.inl (e2 _ _ (e1 _ _ h1))))
    have h4 := hv ys (.inl (.inl (e2 _ _ (e1 _ _ h2))))
    obtain ⟨d1, hd1, g1⟩ := f1.getV h3
    obtain ⟨d2, hd2, g2⟩ := f2.getV h4
    rw [List.getElem?_zipWith, hd1, hd2] at hd
    injection hd with hd; subst hd
    refine .inr (.inl ⟨T, _, hT, rfl, .tup (.inl (.inl upd_same)) ?_⟩)
    have en : Ex B' (upd B' T (.tup [u, v])) := Ex.new (e2.nn hT)
    exact .cons ((g1.mono e1).mono en) (.cons ((g2.mono e1).mono en) .nil)
theorem iv_zip {e e2 : Expr} {p tpos : Pos} {elts : List Expr} {kk : Nat} {f : M (List D)} (hm : X.mg "zip" = none) (ha : EA X W [e, e2] f) (hg : Gl X "zip" := by rfl)
    (hs : starEach [e, e2] X.env = (false, eval e X.env) :: starEach [e2] X.env := by rfl) (hpl : (backTo pos (starEach [e2] X.env)).any (·.1) = false := by rfl) : IV X W (.Tuple elts kk tpos) (.Call (.Name "zip" p) [e, e2] [] pos) (mZip f) := by
  intro F ρ σ B H R L P
  refine PI.wi (pi_zip hg hm pa_wa hs hpl) ?_
  refine ha F ρ σ B H _ L ((Post.bind P).imp fun ds ρ1 B1 H1 e1 L1 P1 vs fs => ?_)
  obtain ⟨zs, hd, k⟩ := P1.opt
  split at hd
  · injection hd with hd; subst hd
    cases fs with
    | cons f1 fs => cases fs with
      | cons f2 fs =>
        cases fs
        cases f1 with
        | lst h1 g1 => cases f2 with
          | lst h2 g2 => exact ⟨_, _, _, _, rfl, .inl (.inl (L1.ex _ _ h1)), .inl (.inl (L1.ex _ _ h2)), k B1 H1 (Ex.refl _) L1 _ (it_zip h1 g1 h2 g2)⟩
  · cases hd
def enumD (k : Nat) : List D → List D
  | [] => []
  | d :: r => .tup [.int (k : Nat), d] :: enumD (k + 1) r
theorem enumD_len : ∀ (k : Nat) (ds : List D), (enumD k ds).length = ds.length
  | _, [] => rfl
  | k, d :: r => by show (enumD (k + 1) r).length + 1 = _; rw [enumD_len]; rfl
theorem enumD_get : ∀ (k : Nat) (ds : List D) (i : Nat), (enumD k ds)[i]? = (ds[i]?).map fun d => D.tup [.int ((k + i : Nat) : Int), d]
  | _, [], i => by simp [enumD]
  | k, d :: r, 0 => by simp [enumD]
  | k, d :: r, i + 1 => by
    show (enumD (k + 1) r)[i]? = _
    rw [enumD_get (k + 1) r i]
    show _ = (r[i]?).map _
    rw [show k + 1 + i = k + (i + 1) by omega]
def mEnum (f : M (List D)) : M (List D) := M.bind f fun ds => M.opt (match ds with
  | [.lst xs] => some (enumD 0 xs)
  | _ => none)
theorem it_enum {p : Addr} {xs : List V} {B : Hp} {ds : List D} (h1 : B p = some (.lst xs)) (f1 : Fzs K B xs ds) : ItOk K (Ite K p) B (enumD 0 ds) where
  go := fun B' H' i e1 e2 hi => by
    rw [enumD_len] at hi
    have hi1 : i < xs.length := by rw [f1.len]; omega
    exact ⟨xs, xs[i], .inl (.inl (e2 _ _ (e1 _ _ h1))), List.getElem?_eq_getElem hi1⟩
  stop := fun B' H' i e1 e2 hi => by
    rw [enumD_len] at hi
    exact ⟨xs, .inl (.inl (e2 _ _ (e1 _ _ h1))), by rw [f1.len]; omega⟩
  yld := fun B' H' i x H3 d e1 e2 y hd => by
    obtain ⟨T, u, rfl, hT, rfl, hu⟩ := y
    have h3 := hu xs (.inl (.inl (e2 _ _ (e1 _ _ h1))))
    obtain ⟨d1, hd1, g1⟩ := f1.getV h3
    rw [enumD_get, hd1] at hd
    injection hd with hd; subst hd
    refine .inr (.inl ⟨T, _, hT, rfl, .tup (.inl (.inl upd_same)) ?_⟩)
    have en : Ex B' (upd B' T (.tup [.int (i : Nat), u])) := Ex.new (e2.nn hT)
    rw [Nat.zero_add]
    exact .cons (.int _) (.cons ((g1.mono e1).mono en) .nil)
theorem iv_enum {e : Expr} {p tpos : Pos} {elts : List Expr} {kk : Nat} {f : M (List D)} (hm : X.mg "enumerate" = none) (ha : EA X W [e] f) (hg : Gl X "enumerate" := by rfl)
    (hs : starEach [e] X.env = [(false, eval e X.env)] := by rfl) : IV X W (.Tuple elts kk tpos) (.Call (.Name "enumerate" p) [e] [] pos) (mEnum f) := by
  intro F ρ σ B H R L P
  refine PI.wi (pi_enum hg hm pa_wa hs) ?_
  refine ha F ρ σ B H _ L ((Post.bind P).imp fun ds ρ1 B1 H1 e1 L1 P1 vs fs => ?_)
  obtain ⟨zs, hd, k⟩ := P1.opt
  split at hd
  · injection hd with hd; subst hd
    cases fs with
    | cons f1 fs =>
      cases fs
      cases f1 with
      | lst h1 g1 => exact ⟨_, _, rfl, .inl (.inl (L1.ex _ _ h1)), k B1 H1 (Ex.refl _) L1 _ (it_enum h1 g1)⟩
  · cases hd
def mListOf (f : M (List D)) : M (D × Ob) := M.bind f fun ds => M.opt (match ds with
  | [.lst xs] => some (.lst xs, .tt)
  | [.tup xs] => some (.lst xs, .tt)
  | _ => none)
theorem eo_listOf {p : Pos} {f : M (List D)} (hm : X.mg "list" = none) (ha : EA X W [a] f) (hg : Gl X "list" := by rfl) (he : starEach (a :: []) X.env = (false, eval a X.env) :: starEach [] X.env := by rfl) : EO X W (.Call (.Name "list" p) [a] [] pos) (mListOf f) := by
  intro F ρ σ B H Q L P
  refine PE.we (pe_callTy call_list_of hg hm (by decide +kernel) pa_wa (by decide) (by decide) he rfl) ?_
  refine ha F ρ σ B H _ L ((Post.bind P).imp fun ds ρ1 B1 H1 e1 L1 P1 vs fs => ?_)
  obtain ⟨p, hp, k⟩ := P1.opt
  split at hp
  · injection hp with hp; subst hp
    cases fs with
    | cons f1 fs =>
      cases fs
      cases f1 with
      | lst h1 g1 =>
        refine ⟨_, _, rfl, .inl (.inl (.inl (L1.ex _ _ h1))), fun q hq => ?_⟩
        obtain ⟨L4, v4⟩ := L1.newL hq g1
        exact k B1 _ (Ex.refl _) L4 _ v4
  · injection hp with hp; subst hp
    cases fs with
    | cons f1 fs =>
      cases fs
      cases f1 with
      | tup h1 g1 =>
        refine ⟨_, _, rfl, .inr (L1.ex.st h1), fun q hq => ?_⟩
        obtain ⟨L4, v4⟩ := L1.newL hq g1
        exact k B1 _ (Ex.refl _) L4 _ v4
  · cases hp
def asInts : List D → Option (List Int)
  | [] => some []
  | .int i :: r => (asInts r).map (i :: ·)
  | _ => none
theorem asInts_eq : ∀ {ds : List D} {ns : List Int}, asInts ds = some ns → ds = ns.map D.int
  | [], ns, h => by injection h with h; subst h; rfl
  | .int i :: r, ns, h => by
    have h' : (asInts r).map (i :: ·) = some ns := h
    cases q : asInts r with
    | none => rw [q] at h'; cases h'
    | some ms => rw [q] at h'; injection h' with h'; subst h'; rw [List.map_cons, asInts_eq q]
  | .non :: _, _, h => by cases h
  | .bl _ :: _, _, h => by cases h
  | .str _ :: _, _, h => by cases h
  | .lst _ :: _, _, h => by cases h
  | .tup _ :: _, _, h => by cases h
  | .scr _ :: _, _, h => by cases h
  | .dic _ _ :: _, _, h => by cases h
theorem asInts_map : ∀ ns : List Int, asInts (ns.map D.int) = some ns
  | [] => rfl
  | n :: ns => by show (asInts (ns.map D.int)).map (n :: ·) = _; rw [asInts_map ns]; rfl
def dSum : List D → Option D
  | [.lst xs] => (asInts xs).map fun ns => .int ns.sum
  | _ => none
def maxI : List Int → Option Int
  | [] => none
  | n :: ns => some (ns.foldl max n)
def minI : List Int → Option Int
  | [] => none
  | n :: ns => some (ns.foldl min n)
def dMaxL : List D → Option D
  | [.lst xs] => ((asInts xs).bind maxI).map D.int
  | _ => none
def dMinL : List D → Option D
  | [.lst xs] => ((asInts xs).bind minI).map D.int
  | _ => none
theorem foldl_max (n : Int) (ns : List Int) : (ns.foldl max n = n ∨ ns.foldl max n ∈ ns) ∧ n ≤ ns.foldl max n ∧ ∀ m ∈ ns, m ≤ ns.foldl max n := by
  induction ns generalizing n with
  | nil => exact ⟨.inl rfl, Int.le_refl _, fun m h => by cases h⟩
  | cons k ns ih =>
    obtain ⟨h1, h2, h3⟩ := ih (max n k)
    rw [List.foldl_cons]
    refine ⟨?_, by omega, fun m hm => ?_⟩
    · rcases h1 with h1 | h1
      · rw [h1]
        by_cases q : n ≤ k
        · right; rw [show max n k = k by omega]; exact List.mem_cons_self
        · left; omega
      · right; exact List.mem_cons_of_mem _ h1
    · rcases List.mem_cons.mp hm with rfl | hm
      · omega
      · exact h3 m hm
theorem foldl_min (n : Int) (ns : List Int) : (ns.foldl min n = n ∨ ns.foldl min n ∈ ns) ∧ ns.foldl min n ≤ n ∧ ∀ m ∈ ns, ns.foldl min n ≤ m := by
  induction ns generalizing n with
  | nil => exact ⟨.inl rfl, Int.le_refl _, fun m h => by cases h⟩
  | cons k ns ih =>
    obtain ⟨h1, h2, h3⟩ := ih (min n k)
    rw [List.foldl_cons]
    refine ⟨?_, by omega, fun m hm => ?_⟩
    · rcases h1 with h1 | h1
      · rw [h1]
        by_cases q : k ≤ n
        · right; rw [show min n k = k by omega]; exact List.mem_cons_self
        · left; omega
      · right; exact List.mem_cons_of_mem _ h1
    · rcases List.mem_cons.mp hm with rfl | hm
      · omega
      · exact h3 m hm
theorem fz_ints {B : Hp} {v : V} {xs : List D} {ns : List Int} (f : Fz K B v (.lst xs)) (h : asInts xs = some ns) : ∃ p, v = .ref p ∧ B p = some (.lst (ns.map V.int)) := by
  cases f with
  | lst h1 g1 =>
    rw [asInts_eq h] at g1
    rw [g1.ints] at h1
    exact ⟨_, rfl, h1⟩
theorem cd_sum : CallD K (rSum K) dSum := by
  intro xs ds d B H Q ex fs h g
  unfold dSum at h
  split at h
  · cases q : asInts _ with
    | none => rw [q] at h; cases h
    | some ns =>
      rw [q] at h; injection h with h; subst h
      cases fs with
      | cons f1 fs =>
        cases fs
        obtain ⟨p, rfl, hp⟩ := fz_ints f1 q
        exact ⟨p, ns, rfl, .inl (.inl (ex _ _ hp)), g.1 _ (.int _)⟩
  · cases h
theorem cd_maxL : CallD K (rMax K) dMaxL := by
  intro xs ds d B H Q ex fs h g
  unfold dMaxL at h
  split at h
  · cases q : asInts _ with
    | none => rw [q] at h; cases h
    | some ns =>
      rw [q] at h
      cases ns with
      | nil => cases h
      | cons n ns =>
        injection h with h; subst h
        cases fs with
        | cons f1 fs =>
          cases fs
          obtain ⟨p, rfl, hp⟩ := fz_ints f1 q
          refine ⟨p, n :: ns, rfl, .inl (.inl (ex _ _ hp)), by rw [List.length_cons]; omega, fun m hm hle => ?_⟩
          obtain ⟨h1, h2, h3⟩ := foldl_max n ns
          have e : m = ns.foldl max n := by
            have a1 : ns.foldl max n ≤ m := by
              rcases h1 with h1 | h1
              · rw [h1]; exact hle n List.mem_cons_self
              · exact hle _ (List.mem_cons_of_mem _ h1)
            have a2 : m ≤ ns.foldl max n := by
              rcases List.mem_cons.mp hm with z | z
              · omega
              · exact h3 m z
            omega
          rw [e]
          exact g.1 _ (.int _)
  · cases h
theorem cd_minL : CallD K (rMin K) dMinL := by
  intro xs ds d B H Q ex fs h g
  unfold dMinL at h
  split at h
  · cases q : asInts _ with
    | none => rw [q] at h; cases h
    | some ns =>
      rw [q] at h
      cases ns with
      | nil => cases h
      | cons n ns =>
        injection h with h; subst h
        cases fs with
        | cons f1 fs =>
          cases fs
          obtain ⟨p, rfl, hp⟩ := fz_ints f1 q
          refine ⟨p, n :: ns, rfl, .inl (.inl (ex _ _ hp)), by rw [List.length_cons]; omega, fun m hm hle => ?_⟩
          obtain ⟨h1, h2, h3⟩ := foldl_min n ns
          have e : m = ns.foldl min n := by
            have a1 : m ≤ ns.foldl min n := by
              rcases h1 with h1 | h1
              · rw [h1]; exact hle n List.mem_cons_self
              · exact hle _ (List.mem_cons_of_mem _ h1)
            have a2 : ns.foldl min n ≤ m := by
              rcases List.mem_cons.mp hm with z | z
              · omega
              · exact h3 m z
            omega
          rw [e]
          exact g.1 _ (.int _)
  · cases h
variable {p : Pos} {fa : M (List D)}
theorem ev_sum (hc : X.calm = true) (hm : X.mg "sum" = none) (ha : EA X W [a] fa) (hg : Gl X "sum" := by rfl) (he : starEach (a :: []) X.env = (false, eval a X.env) :: starEach [] X.env := by rfl) : EV X W (.Call (.Name "sum" p) [a] [] pos) (mCall dSum fa) := ev_callB (cr_sum hc) cd_sum hg hm (by decide +kernel) ha (by decide) (by decide) he
theorem ev_maxL (hc : X.calm = true) (hm : X.mg "max" = none) (ha : EA X W [a] fa) (hg : Gl X "max" := by rfl) (he : starEach (a :: []) X.env = (false, eval a X.env) :: starEach [] X.env := by rfl) : EV X W (.Call (.Name "max" p) [a] [] pos) (mCall dMaxL fa) := ev_callB (cr_max hc) cd_maxL hg hm (by decide +kernel) ha (by decide) (by decide) he
theorem ev_minL (hc : X.calm = true) (hm : X.mg "min" = none) (ha : EA X W [a] fa) (hg : Gl X "min" := by rfl) (he : starEach (a :: []) X.env = (false, eval a X.env) :: starEach [] X.env := by rfl) : EV X W (.Call (.Name "min" p) [a] [] pos) (mCall dMinL fa) := ev_callB (cr_min hc) cd_minL hg hm (by decide +kernel) ha (by decide) (by decide) he
def dInt : List D → Option D
  | [.int i] => some (.int i)
  | [.bl k] => some (.int (if k then 1 else 0))
  | _ => none
theorem cd_int : CallD K (fun xs H Q => (∃ i, xs = [.int i] ∧ Q (.int i) H) ∨ ∃ k, xs = [.bl k] ∧ Q (.int (if k then 1 else 0)) H) dInt := by
  intro xs ds d B H Q ex fs h g
  unfold dInt at h
  split at h
  · injection h with h; subst h
    cases fs with
    | cons f1 fs => cases fs; cases f1; exact .inl ⟨_, rfl, g.1 _ (.int _)⟩
  · injection h with h; subst h
    cases fs with
    | cons f1 fs => cases fs; cases f1; exact .inr ⟨_, rfl, g.1 _ (.int _)⟩
  · cases h
theorem ev_intOf (hm : X.mg "int" = none) (ha : EA X W [a] fa) (hg : Gl X "int" := by rfl) (he : starEach (a :: []) X.env = (false, eval a X.env) :: starEach [] X.env := by rfl) : EV X W (.Call (.Name "int" p) [a] [] pos) (mCall dInt fa) := ev_callTy call_int1 cd_int hg hm (by decide +kernel) ha (by decide) (by decide) he
def chkL (i : Nat) : M Unit := fun ρ => match ρ[i]? with
  | some (.ow (.lst _)) => .ok () ρ
  | some (.io (.lst _)) => .ok () ρ
  | _ => .fail
theorem Lv.chkL {F : Fr} {ρ : Env} {σ : St} {B H : Hp} {i : Nat} (L : Lv K F ρ σ B H) (h : Dt.chkL i ρ ≠ .fail) : Dt.chkL i ρ = .ok () ρ ∧ ∃ a vs, σ[i]? = some (some (.ref a)) ∧ H a = some (.lst vs) := by
  unfold Dt.chkL at h ⊢
  split at h
  · rename_i d q
    obtain ⟨a, e1, w, _⟩ := L.ow i _ q rfl
    obtain ⟨_, vs, h1, _⟩ := w
    exact ⟨by simp only [q], _, _, e1, h1⟩
  · rename_i d q
    obtain ⟨a, e1, w, _⟩ := L.ow i _ q rfl
    obtain ⟨_, vs, h1, _⟩ := w
    exact ⟨by simp only [q], _, _, e1, h1⟩
  · exact absurd rfl h
def mUpd (i : Nat) (h : List D → Option (List D)) : M Fl := fun ρ => match ρ[i]? with
  | some (.ow (.lst ds)) => match h ds with
    | some ds' => .ok .nx (ρ.set i (.ow (.lst ds')))
    | none => .fail
  | some (.io (.lst ds)) => match h ds with
    | some ds' => .ok .nx (ρ.set i (.io (.lst ds')))
    | none => .fail
  | _ => .fail
theorem Lv.upd1 {F : Fr} {ρ : Env} {σ : St} {B H : Hp} {i : Nat} {h : List D → Option (List D)} {N : Ends} {aa : Addr} (L : Lv X.K F ρ σ B H) (ev : σ[i]? = some (some (.ref aa))) (P : PostS X W F B (mUpd i h ρ) N) :
    ∃ vs ds ds', H aa = some (.lst vs) ∧ Fzs X.K B vs ds ∧ h ds = some ds' ∧ ∀ vs', Fzs X.K B vs' ds' → N.nx σ (upd H aa (.lst vs')) := by
  have go : ∀ {s : Slot} {ds : List D}, ρ[i]? = some s → flat s = true → s.dat = .lst ds → (∀ ds', h ds = some ds' → PostS X W F B (.ok .nx (ρ.set i (reslot ρ[i]? (.lst ds')))) N) → (h ds = none → False) → ∃ vs ds ds', H aa = some (.lst vs) ∧ Fzs X.K B vs ds ∧ h ds = some ds' ∧ ∀ vs', Fzs X.K B vs' ds' → N.nx σ (upd H aa (.lst vs')) := by
    intro s ds q ho hd P2 nf
    obtain ⟨a', vs, h1, h2, fs, st⟩ := L.setAt (ds' := ds) q ho hd
    rw [ev] at h1; injection h1 with h1; injection h1 with h1; injection h1 with h1; subst h1
    cases q2 : h ds with
    | none => exact (nf q2).elim
    | some ds' => exact ⟨vs, ds, ds', h2, fs, q2, fun vs' f' => P2 ds' q2 σ B _ (Ex.refl _) (st vs' ds' f')⟩
  unfold mUpd at P
  split at P
  · rename_i ds q
    refine go q rfl rfl (fun ds' z => ?_) (fun z => ?_)
    · rw [q]; simp only [z] at P; exact P
    · simp only [z] at P; exact P
  · rename_i ds q
    refine go q rfl rfl (fun ds' z => ?_) (fun z => ?_)
    · rw [q]; simp only [z] at P; exact P
    · simp only [z] at P; exact P
  · exact P.elim
def mApp1 (i : Nat) (fe : M D) : M Fl := M.bind (chkL i) fun _ => M.bind fe fun d => mUpd i fun ds => if ds.length < 10000 then some (ds ++ [d]) else none
theorem sv_app {i : Nat} {x : Str} {px apos cpos : Pos} {fe : M D} (he : EV X W e fe) (hN : X.N[i]? = some x := by rfl) (hv : Vis X.env.scope x := by first | exact Or.inl rfl | exact Or.inr (Or.inl rfl) | exact Or.inr (Or.inr rfl)) (hd : (x == ("__debug__" : Str)) = false := by decide)
    (hcd : (x == ("__classdict__" : Str)) = false := by decide) (hbase : attributeBase (.Name x px) "append" X.env (eval (.Name x px) X.env) = eval (.Name x px) X.env := by rfl)
    (hfew : ((backTo cpos (starEach (e :: []) X.env)).all (fun x => !x.1) && (backToKw cpos (keywordEach [] X.env)).all (fun x => x.1.isSome)
      && decide ((e :: []).length + ([] : List Keyword).length + (if ([] : List Keyword).isEmpty then 0 else 1) < 30)) = true := by rfl)
    (hline : (apos.endLine == cpos.line) = true := by rfl) (hs : starEach (e :: []) X.env = (false, eval e X.env) :: starEach [] X.env := by rfl)
    (hsw : swapsWith (.Call (.Attribute (.Name x px) "append" apos) [e] [] cpos) none pos.line X.env = pure false := by rfl) : SV X W (.Expr (.Call (.Attribute (.Name x px) "append" apos) [e] [] cpos) pos) (mApp1 i fe) := by
  intro F ρ σ B H N L P
  refine PS.ws (ps_expr (pe_bm PySem.F.plainAttrs_list PySem.F.slot_list_append PySem.F.type_list_append mt_append (pe_var hN hv hd hcd) (pa_cons pe_we pa_nil hs) hbase hfew hline hs rfl) hsw) ?_
  have P0 : PostS X W F B ((M.bind (chkL i) fun _ => M.bind fe fun d => mUpd i fun ds => if ds.length < 10000 then some (ds ++ [d]) else none) ρ) N := P
  have hne : chkL i ρ ≠ .fail := fun z => by unfold M.bind at P0; simp only [z] at P0; exact P0.elim
  obtain ⟨hck, aa, vs, ev, hl⟩ := L.chkL hne
  unfold M.bind at P0
  simp only [hck] at P0
  refine ⟨_, ev, .inl ⟨rfl, vs, .inl (.inl hl)⟩, ?_⟩
  refine he F ρ σ B H _ L ((PostS.bind (σ := σ) P0).imp fun d ρ1 B1 H1 e1 L1 P1 v fv => ?_)
  obtain ⟨vs1, ds1, ds2, h1, fs, h2, k⟩ := L1.upd1 ev P1
  split at h2
  · rename_i hz
    injection h2 with h2; subst h2
    exact ⟨aa, vs1, v, rfl, rfl, h1, lt_line (by rw [fs.len]; exact hz), k _ (fs.append (.cons fv .nil))⟩
  · cases h2
def mAugI (i : Nat) (h : Int → Int → Int) (f : M D) : M Fl := M.bind (chk i) fun _ => M.bind f fun d ρ => match ρ[i]?, d with
  | some (.fz (.int z)), .int y => .ok .nx (ρ.set i (.fz (.int (h z y))))
  | _, _ => .fail
end
end Dt
namespace Dt
open PySem PySem.Spec PyProof.Rows L2
section
variable {X : Cx} {W : WX} {e a b : Expr} {fa : M (List D)} {p pos : Pos} {K : PySem.W.Frag}
theorem sv_raiseV {x : Str} {fe : M D} {p3 : Pos} (hc : X.calm = true) (tk : Takes X W) (T : ExC X.K X.mg x) (he : EV X W e fe) (hg : Gl X x := by rfl) (hs : starEach [e] X.env = (false, eval e X.env) :: starEach [] X.env := by rfl) (hdb : (x == ("__debug__" : Str)) = false := by decide) :
    SV X W (.Raise (some (.Call (.Name x p) [e] [] p3)) none pos) (M.bind fe fun _ => M.raise x) := by
  obtain ⟨C, gC, xC, kC, bC, tC⟩ := T
  intro F ρ σ B H N L P
  refine PS.ws (ps_raise hc tk (SkE.pmk_own1 PySem.F.excBase_ValueError xC gC kC (raises_own bC tC) hg pe_we hs hdb)) ?_
  refine he F ρ σ B H _ L ((PostS.bind (σ := σ) P).imp fun d ρ1 B1 H1 e1 L1 P1 v fv => ?_)
  have h := P1 σ B1 H1 (Ex.refl _) L1
  unfold cv at h
  rw [gC] at h
  exact h
end
end Dt
namespace Dt
open PySem PySem.Spec PyProof.Rows L2
section
variable {X : Cx} {W : WX} {e a b kx : Expr} {f1 f2 fe fk : M D} {p p2 pos : Pos} {K : PySem.W.Frag} {F : Fr} {ρ : Env} {σ : St} {B H : Hp} {i : Nat} {x : Str}
def mListRg1 (f1 : M D) : M (D × Ob) := M.bind f1 fun d => M.opt (match d with
  | .int j => if -10000 < j ∧ j < 10000 then some (.lst (rangeD 0 j), .tt) else none
  | _ => none)
def mListRg2 (f1 f2 : M D) : M (D × Ob) := M.bind f1 fun c => M.bind f2 fun d => M.opt (match c, d with
  | .int i, .int j => if (-10000 < i ∧ i < 10000) ∧ (-10000 < j ∧ j < 10000) then some (.lst (rangeD i j), .tt) else none
  | _, _ => none)
theorem fzs_rg {B : Hp} (i j : Int) : Fzs K B (rgV i j) (rangeD i j) := by
  unfold rgV rangeD
  generalize List.range (j - i).toNat = l
  induction l with
  | nil => exact .nil
  | cons x r ih => exact .cons (.int _) ih
theorem eo_listRg1 {p3 : Pos} (hc : X.calm = true) (hm : X.mg "list" = none) (hr : X.mg "range" = none) (ha : EV X W a f1) (hg : Gl X "list" := by rfl) (hg2 : Gl X "range" := by rfl) (h1 : starEach [Expr.Call (.Name "range" p2) [a] [] pos] X.env = (false, eval (.Call (.Name "range" p2) [a] [] pos) X.env) :: starEach [] X.env := by rfl) (h2 : starEach [a] X.env = (false, eval a X.env) :: starEach [] X.env := by rfl) :
    EO X W (.Call (.Name "list" p) [.Call (.Name "range" p2) [a] [] pos] [] p3) (mListRg1 f1) := by
  intro F ρ σ B H Q L P
  refine PE.we (pe_listRg hc hg hm (prg_1 hg2 hr pe_we h2) h1) ?_
  refine ha F ρ σ B H _ L ((Post.bind P).imp fun d ρ1 B1 H1 e1 L1 P1 v fv => ?_)
  obtain ⟨z, hz, k⟩ := P1.opt
  split at hz
  · rename_i j
    cases fv
    split at hz
    · rename_i hj
      injection hz with hz; subst hz
      refine ⟨j, rfl, ⟨by omega, by omega, by omega, by omega, by omega⟩, fun q hq => ?_⟩
      obtain ⟨L4, v4⟩ := L1.newL hq (fzs_rg 0 j)
      exact k B1 _ (Ex.refl _) L4 _ v4
    · cases hz
  · cases hz
def mUpdE (i : Nat) (h : List D → Option (D × List D)) : M D := fun ρ => match ρ[i]? with
  | some (.ow (.lst ds)) => match h ds with
    | some (d, ds') => .ok d (ρ.set i (.ow (.lst ds')))
    | none => .fail
  | some (.io (.lst ds)) => match h ds with
    | some (d, ds') => .ok d (ρ.set i (.io (.lst ds')))
    | none => .fail
  | _ => .fail
def popD (k : D) (ds : List D) : Option (D × List D) := match k with
  | .int z => if ds.length ≤ 10000 then (ixN ds.length z).bind fun j => (ds[j]?).map fun d => (d, ds.eraseIdx j) else none
  | _ => none
def mPopAt (i : Nat) (fk : M D) : M D := M.bind (chkL i) fun _ => M.bind fk fun k => mUpdE i (popD k)
def mExt (i : Nat) (fe : M D) : M Fl := M.bind (chkL i) fun _ => M.bind fe fun d => mUpd i fun ds => match d with
  | .lst es => if ds.length + es.length ≤ 100000 then some (ds ++ es) else none
  | _ => none
def mIns (i : Nat) (fk fe : M D) : M Fl := M.bind (chkL i) fun _ => M.bind fk fun c => M.bind fe fun d => mUpd i fun ds => match c with
  | .int z => if ds.length < 10000 ∧ 0 ≤ z ∧ z < 10000 then some (ds.take z.toNat ++ [d] ++ ds.drop z.toNat) else none
  | _ => none
def rGetL : V → V → Hp → VK → Prop := fun x y H Q => ∃ (q : Addr) (xs : List V) (k : Int) (v : V), x = .ref q ∧ y = .int k ∧ H q = some (.lst xs) ∧ 0 ≤ k ∧ atI xs k = some v ∧ Q v H
theorem get_listL : PGet X rGetL := by
  intro pins s σ H o k ov kv Q I r1 r2 h
  obtain ⟨q, xs, z, v, rfl, rfl, hq, h0, hz, go⟩ := h
  cases r1
  obtain ⟨t, rfl⟩ := r2
  obtain ⟨its, r, pl, few⟩ := I.list (.inl (.inl hq))
  obtain ⟨j, h1, h2, h3, h4, h5⟩ := atI_get hz
  obtain ⟨u, eu, ru⟩ := r.get h2
  have big := line63
  rw [seqIndex_of h0 h5] at h1
  have hj : z.toNat = j := Option.some.inj h1
  exact wpAny_getItem_list pl.isList h0 (by omega) (by rw [hj]; simpa using eu) ⟨v, H, I, ru, go⟩
def getV (k d : D) : Option D := match k with
  | .int z => if 0 ≤ z then dIxL d (.int z) else none
  | _ => none
def mGetV (i : Nat) (k : D) : M D := fun ρ => match (contR ρ[i]?).bind (getV k) with
  | some z => .ok z ρ
  | none => .fail
def augD (h : Int → Int → Int) (c old d : D) (ds : List D) : Option (List D) := match c, old, d with
  | .int z, .int x, .int y => if 0 ≤ z then (ixN ds.length z).map fun j => ds.set j (.int (h x y)) else none
  | _, _, _ => none
def mAugAt (i : Nat) (h : Int → Int → Int) (fk fe : M D) : M Fl := M.bind (chkL i) fun _ => M.bind fk fun c => M.bind (mGetV i c) fun old => M.bind fe fun d => mUpd i (augD h c old d)
theorem sv_augAt {op : Operator} {h : Int → Int → Int} {px pt : Pos} (ip : PIp X op (ipI h)) (hk : EV X W kx fk) (he : EV X W e fe) (hN : X.N[i]? = some x := by rfl) (hv : Vis X.env.scope x := by first | exact Or.inl rfl | exact Or.inr (Or.inl rfl) | exact Or.inr (Or.inr rfl)) (hd : (x == ("__debug__" : Str)) = false := by decide)
    (hcd : (x == ("__classdict__" : Str)) = false := by decide) (ha : ∀ ov iv new, augStore kx ov iv new = (do holding [new, ov, iv] (setItem ov iv new); release [new, ov, iv] []; pure .next) := by intros; rfl) :
    SV X W (.AugAssign (.Subscript (.Name x px) kx pt) op e pos) (mAugAt i h fk fe) := by
  intro F ρ σ B H N L P
  refine PS.ws (ps_augS (pe_var hN hv hd hcd) pe_we get_listL pe_we ip set_list ha) ?_
  have P0 : PostS X W F B ((M.bind (chkL i) fun _ => M.bind fk fun c => M.bind (mGetV i c) fun old => M.bind fe fun d => mUpd i (augD h c old d)) ρ) N := P
  have hne : chkL i ρ ≠ .fail := fun z => by unfold M.bind at P0; simp only [z] at P0; exact P0.elim
  obtain ⟨hck, aa, vs, ev, hl⟩ := L.chkL hne
  unfold M.bind at P0
  simp only [hck] at P0
  refine ⟨_, ev, hk F ρ σ B H _ L ((PostS.bind (σ := σ) P0).imp fun c ρ1 B1 H1 e1 L1 P1 u fu => ?_)⟩
  have P2 : PostS X W F B1 ((M.bind (mGetV i c) fun old => M.bind fe fun d => mUpd i (augD h c old d)) ρ1) N := P1
  unfold M.bind mGetV at P2
  cases q : contR ρ1[i]? with
  | none => simp only [q, Option.bind_none] at P2; exact P2.elim
  | some d0 =>
    simp only [q, Option.bind_some] at P2
    cases q2 : getV c d0 with
    | none => simp only [q2] at P2; exact P2.elim
    | some old =>
      simp only [q2] at P2
      have P3 := PostS.bind (σ := σ) (f := fe) P2
      obtain ⟨B2, x1, x2, fz0, hl0⟩ := L1.cont q ev
      unfold getV at q2
      split at q2
      · rename_i z
        split at q2
        · rename_i h0
          cases d0 with
          | lst ds =>
            obtain ⟨a2, vs2, z1, z2, z3⟩ := hl0 ds rfl
            obtain rfl : aa = a2 := by injection z1
            have q3 : L2.atI ds z = some old := q2
            obtain ⟨w, w1, w2⟩ := z3.atI q3
            cases fu
            refine ⟨aa, vs2, z, w, rfl, rfl, z2, h0, w1, ?_⟩
            refine he F ρ1 σ B1 H1 _ L1 (P3.imp fun d ρ2 B2 H2 e2 L2 P4 v fv => ?_)
            obtain ⟨vs3, ds3, ds4, y1, y2, y3, y4⟩ := L2.upd1 ev P4
            cases old with
            | int x' =>
              cases d with
              | int y' =>
                cases w2
                cases fv
                simp only [augD, if_pos h0] at y3
                cases hj : ixN ds3.length z with
                | none => rw [hj] at y3; cases y3
                | some j =>
                  rw [hj] at y3
                  injection y3 with y3; subst y3
                  exact ⟨x', y', rfl, rfl, aa, vs3, z, j, rfl, rfl, y1, by rw [y2.len]; exact hj, y4 _ (y2.set j (.int _))⟩
              | _ => cases y3
            | _ => cases y3
          | _ => cases q2
        · cases q2
      · cases q2
def mCatO (f1 f2 : M D) : M (D × Ob) := M.bind f1 fun c => M.bind f2 fun d => M.opt (match c, d with
  | .lst xs, .lst ys => if tooLong (xs.length + ys.length) = true then none else some (.lst (xs ++ ys), .tt)
  | _, _ => none)
theorem eo_cat (ha : EV X W a f1) (hb : EV X W b f2) : EO X W (.BinOp a .Add b pos) (mCatO f1 f2) := by
  intro F ρ σ B H Q L P
  refine PE.we (pe_op op_cat pe_we pe_we) ?_
  refine ha F ρ σ B H _ L ((Post.bind P).imp fun c ρ1 B1 H1 e1 L1 P1 u fu => ?_)
  refine hb F ρ1 σ B1 H1 _ L1 ((Post.bind P1).imp fun d ρ2 B2 H2 e2 L2 P2 v fv => ?_)
  obtain ⟨z, hz, k⟩ := P2.opt
  have fu := fu.mono e2
  split at hz
  · split at hz
    · cases hz
    · rename_i hl
      injection hz with hz; subst hz
      cases fu with
      | lst g1 g2 =>
        cases fv with
        | lst g3 g4 =>
          refine ⟨_, _, _, _, rfl, rfl, L2.ex _ _ g1, L2.ex _ _ g3, by rw [g2.len, g4.len]; exact notLong hl, fun q hq => ?_⟩
          obtain ⟨L4, v4⟩ := L2.newL hq (g2.append g4)
          exact k B2 _ (Ex.refl _) L4 _ v4
  · cases hz
def mRepO (f1 f2 : M D) : M (D × Ob) := M.bind f1 fun c => M.bind f2 fun d => M.opt (match c, d with
  | .lst xs, .int k => if k < 10000 ∧ -10000 < k ∧ xs.length ≤ 1000 then some (.lst (List.replicate k.toNat xs).flatten, .tt) else none
  | _, _ => none)
theorem eo_rep (ha : EV X W a f1) (hb : EV X W b f2) : EO X W (.BinOp a .Mult b pos) (mRepO f1 f2) := by
  intro F ρ σ B H Q L P
  refine PE.we (pe_op op_rep pe_we pe_we) ?_
  refine ha F ρ σ B H _ L ((Post.bind P).imp fun c ρ1 B1 H1 e1 L1 P1 u fu => ?_)
  refine hb F ρ1 σ B1 H1 _ L1 ((Post.bind P1).imp fun d ρ2 B2 H2 e2 L2 P2 v fv => ?_)
  obtain ⟨z, hz, k⟩ := P2.opt
  replace fu := fu.mono e2
  split at hz
  · rename_i xs kk
    split at hz
    · rename_i hk
      injection hz with hz; subst hz
      cases fv
      cases fu with
      | lst g1 g2 =>
        refine ⟨_, kk, _, rfl, rfl, L2.ex _ _ g1, by omega, by omega, ?_, fun q hq => ?_⟩
        · have h1 := hk.2.2
          rw [← g2.len] at h1
          have h2 : kk.toNat ≤ 10000 := by omega
          exact len_line' (Nat.le_trans (Nat.mul_le_mul h1 h2) (by decide))
        · obtain ⟨L4, v4⟩ := L2.newL hq (g2.rep kk.toNat)
          exact k B2 _ (Ex.refl _) L4 _ v4
    · cases hz
  · cases hz
def mIsiL (T : String) (i : Nat) : M D := M.bind (chk i) fun _ ρ => match (contR ρ[i]?).bind (dIsi T) with
  | some z => .ok z ρ
  | none => .fail
end
end Dt
namespace Dt
open PySem L2
def Rs.bnd {α β : Type} (r : Rs α) (g : α → M β) : Rs β := match r with
  | .ok a ρ' => g a ρ'
  | .rz c ρ' => .rz c ρ'
  | .fail => .fail
section
variable {α β : Type} {ρ ρ' : Env} {a : α} {c : Str} {g : α → M β} {f : M α}
@[simp] theorem ok_bnd : (Rs.ok a ρ).bnd g = g a ρ := rfl
@[simp] theorem rz_bnd : (Rs.rz c ρ : Rs α).bnd g = .rz c ρ := rfl
@[simp] theorem fail_bnd : (Rs.fail : Rs α).bnd g = .fail := rfl
@[simp] theorem bind_ap : M.bind f g ρ = (f ρ).bnd g := rfl
@[simp] theorem pure_ap : M.pure a ρ = .ok a ρ := rfl
@[simp] theorem fail_ap : (M.fail : M α) ρ = .fail := rfl
@[simp] theorem opt_some : M.opt (some a) ρ = .ok a ρ := rfl
@[simp] theorem opt_none : (M.opt none : M α) ρ = .fail := rfl
@[simp] theorem raise_ap : (M.raise c : M α) ρ = .rz c ρ := rfl
end
section
variable {i j : Nat} {ρ : Env} {d x y : D} {f f1 f2 f3 : M D} {fs : M (List D)} {fo : M (D × Ob)} {t u : M Bool} {a b : M Fl} {g : D → D → Option D} {g1 : D → Option D} {gs : List D → Option D} {k : Bool}
@[simp] theorem var_ap : mVar i ρ = match ρ[i]? with
  | some (.fz d) => .ok d ρ
  | some (.ow d) => .ok d (ρ.set i (.fz d))
  | some (.dp _ d) => .ok d (ρ.set i (.fz d))
  | _ => .fail := rfl
@[simp] theorem bin_ap : mBin g f1 f2 ρ = (f1 ρ).bnd fun x => M.bind f2 fun y => M.opt (g x y) := rfl
@[simp] theorem un_ap : mUn g1 f ρ = (f ρ).bnd fun x => M.opt (g1 x) := rfl
@[simp] theorem test_ap : mTest f ρ = (f ρ).bnd fun d => M.opt (asBl d) := rfl
@[simp] theorem asBl_bl : asBl (.bl k) = some k := rfl
@[simp] theorem nil_ap : mNil ρ = .ok [] ρ := rfl
@[simp] theorem cons_ap : mCons f fs ρ = (f ρ).bnd fun x => M.bind fs fun xs => M.pure (x :: xs) := rfl
@[simp] theorem call_ap : mCall gs fs ρ = (fs ρ).bnd fun xs => M.opt (gs xs) := rfl
@[simp] theorem tup_ap : mTup fs ρ = (fs ρ).bnd fun xs => M.opt (if xs.length ≤ 10000 then some (.tup xs) else none) := rfl
@[simp] theorem lst_ap : mLst fs ρ = (fs ρ).bnd fun xs => M.opt (if xs.length ≤ 10000 then some (.lst xs, .tt) else none) := rfl
@[simp] theorem mfz_ap : mFz fo ρ = (fo ρ).bnd fun p => M.opt (if p.2.ok = true then some p.1 else none) := rfl
@[simp] theorem mof_ap : mOf f ρ = (f ρ).bnd fun d => M.pure (d, .ff) := rfl
@[simp] theorem move_ap : mMove i ρ = match ρ[i]? with
  | some (.fz d) => .ok (d, .ff) ρ
  | some (.ow d) => .ok (d, .tt) (ρ.set i .un)
  | some (.dp m d) => .ok (d, .dp m) (ρ.set i .un)
  | _ => .fail := rfl
@[simp] theorem and_ap : mAnd t u ρ = (t ρ).bnd fun k => match k with
  | true => u
  | false => M.pure false := rfl
@[simp] theorem or_ap : mOr t u ρ = (t ρ).bnd fun k => match k with
  | true => M.pure true
  | false => u := rfl
@[simp] theorem not_ap : mNot t ρ = (t ρ).bnd fun k => M.pure (!k) := rfl
@[simp] theorem andV_ap : mAndV f1 f2 ρ = (f1 ρ).bnd fun d => match d with
  | .bl true => f2
  | .bl false => M.pure (.bl false)
  | _ => M.fail := rfl
@[simp] theorem orV_ap : mOrV f1 f2 ρ = (f1 ρ).bnd fun d => match d with
  | .bl true => M.pure (.bl true)
  | .bl false => f2
  | _ => M.fail := rfl
@[simp] theorem notV_ap : mNotV f ρ = (f ρ).bnd fun d => match d with
  | .bl k => M.pure (.bl (!k))
  | _ => M.fail := rfl
@[simp] theorem mif_ap {α : Type} {a b : M α} : mIf t a b ρ = (t ρ).bnd fun k => match k with
  | true => a
  | false => b := rfl
@[simp] theorem seq_ap : mSeq a b ρ = (a ρ).bnd fun fl => match fl with
  | .nx => b
  | .bk => M.pure .bk
  | .ct => M.pure .ct
  | .rt d o => M.pure (.rt d o) := rfl
@[simp] theorem mnx_ap : mNx ρ = .ok .nx ρ := rfl
@[simp] theorem set_ap : mSet i fo ρ = (fo ρ).bnd (mPut i) := rfl
@[simp] theorem put_ap {p : D × Ob} : mPut i p ρ = match Slot.of p with
  | some s => .ok .nx (ρ.set i s)
  | none => .fail := rfl
@[simp] theorem ok_ff : Ob.ok .ff = true := rfl
@[simp] theorem ok_tt : Ob.ok .tt = true := rfl
@[simp] theorem ok_dp {m : Mk} : Ob.ok (.dp m) = true := rfl
@[simp] theorem sof_ff : Slot.of (d, .ff) = some (.fz d) := rfl
@[simp] theorem sof_tt : Slot.of (d, .tt) = some (.ow d) := rfl
@[simp] theorem sof_dp {m : Mk} : Slot.of (d, .dp m) = some (.dp m d) := rfl
@[simp] theorem ret_ap : mRet fo ρ = (fo ρ).bnd fun p => M.pure (.rt p.1 p.2) := rfl
@[simp] theorem drop_ap : mDrop f ρ = (f ρ).bnd fun _ => mNx := rfl
@[simp] theorem isi_ap {T : String} : mIsi T f ρ = (f ρ).bnd fun d => M.opt (dIsi T d) := rfl
@[simp] theorem par_ap : mPar i j fs ρ = (fs ρ).bnd fun ds ρ => match ds with
  | [x, y] => .ok .nx ((ρ.set i (.fz x)).set j (.fz y))
  | _ => .fail := rfl
@[simp] theorem asg_ap {h : D → Env → Option Env} : mAsg h f ρ = (f ρ).bnd fun d ρ => match h d ρ with
  | some ρ' => .ok .nx ρ'
  | none => .fail := rfl
@[simp] theorem gN_ap : gN i d ρ = some (ρ.set i (.fz d)) := rfl
@[simp] theorem gsN_ap : gsN [] ρ = some ρ := rfl
@[simp] theorem gsC_ap {h : D → Env → Option Env} {hs : List D → Env → Option Env} {r : List D} : gsC h hs (d :: r) ρ = (h d ρ).bind (hs r) := rfl
@[simp] theorem gT_ap {n : Nat} {hs : List D → Env → Option Env} {ds : List D} : gT n hs (.tup ds) ρ = if ds.length = n then hs ds ρ else none := rfl
@[simp] theorem for_ap {h : D → Env → Option Env} : mFor fs h b ρ = (fs ρ).bnd (mForL h b) := rfl
@[simp] theorem forL_nil {h : D → Env → Option Env} : mForL h b [] ρ = .ok .nx ρ := rfl
theorem forL_cons {h : D → Env → Option Env} {r : List D} : mForL h b (d :: r) ρ = match h d ρ with
    | none => .fail
    | some ρ1 => (b ρ1).bnd fun fl => match fl with
      | .nx => mForL h b r
      | .ct => mForL h b r
      | .bk => mNx
      | .rt d o => M.pure (.rt d o) := rfl
@[simp] theorem range1_ap : mRange1 fs ρ = (fs ρ).bnd fun ds => M.opt (match ds with
  | [.int j] => if -100000000 < j ∧ j < 100000000 then some (rangeD 0 j) else none
  | _ => none) := rfl
@[simp] theorem range2_ap : mRange2 fs ρ = (fs ρ).bnd fun ds => M.opt (match ds with
  | [.int i, .int j] => if (-100000000 < i ∧ i < 100000000) ∧ (-100000000 < j ∧ j < 100000000) then some (rangeD i j) else none
  | _ => none) := rfl
@[simp] theorem iter_ap : mIter f ρ = (f ρ).bnd fun d => M.opt (match d with
  | .lst ds => some ds
  | _ => none) := rfl
@[simp] theorem chk_ap : chk i ρ = match ρ[i]? with
  | some (.ow _) => .ok () ρ
  | some (.io _) => .ok () ρ
  | some (.fz _) => .ok () ρ
  | _ => .fail := rfl
@[simp] theorem peek_ap : mPeek i f ρ = (chk i ρ).bnd fun _ => M.bind f fun k ρ => match (contR ρ[i]?).bind fun d => dIxL d k with
  | some z => .ok z ρ
  | none => .fail := rfl
@[simp] theorem putAt_ap : mPutAt i f1 f2 ρ = (f1 ρ).bnd fun d => M.bind (chk i) fun _ => M.bind f2 fun k ρ => match ρ[i]?, k with
  | some (.ow (.lst ds)), .int z => match ixN ds.length z with
    | some j => .ok .nx (ρ.set i (.ow (.lst (ds.set j d))))
    | none => .fail
  | some (.io (.lst ds)), .int z => match ixN ds.length z with
    | some j => .ok .nx (ρ.set i (.io (.lst (ds.set j d))))
    | none => .fail
  | _, _ => .fail := rfl
variable {fx : M (List AV)} {m : Option Nat} {n : Nat} {h : List D → Rf} {av : AV} {avs : List AV} {ds : List D} {sl : Option Slot}
@[simp] theorem xNil_ap : xNil ρ = .ok [] ρ := rfl
@[simp] theorem xV_ap : xV f fx ρ = (f ρ).bnd fun x => M.bind fx fun xs => M.pure (.v x :: xs) := rfl
@[simp] theorem xS_ap : xS i fx ρ = ((match ρ[i]? with
  | some (.ow _) => Rs.ok () ρ
  | some (.io _) => .ok () ρ
  | _ => .fail) : Rs Unit).bnd fun _ => M.bind fx fun xs => M.pure (.s i :: xs) := rfl
@[simp] theorem callN_ap : mCallN n m h fx ρ = (fx ρ).bnd fun avs ρ => (if avs.length = n then match setup ρ m avs with
  | none => .fail
  | some ds => match h ds with
    | .ok d o out => if o.ok = true then .ok (d, o) (match slotOf m avs with
      | none => ρ
      | some i => ρ.set i (reslot ρ[i]? out)) else .fail
    | .rz c => .rz c (match slotOf m avs with
      | none => ρ
      | some i => ρ.set i .un)
    | .fail => .fail else .fail) := by
  unfold mCallN mCallF
  rw [bind_ap, bind_ap]
  cases q : fx ρ with
  | ok avs ρ1 =>
    simp only [ok_bnd]
    split
    · simp only [opt_some, ok_bnd] <;> rfl
    · rfl
  | rz c ρ1 => rfl
  | fail => rfl
@[simp] theorem setup_nil : setup ρ none [] = some [] := rfl
@[simp] theorem setup_v : setup ρ none (.v d :: avs) = (setup ρ none avs).map (d :: ·) := rfl
@[simp] theorem setup_s : setup ρ (some 0) (.s i :: avs) = (contS ρ[i]?).bind fun d => (setup ρ none avs).map (d :: ·) := rfl
@[simp] theorem setup_vs : setup ρ (some (j + 1)) (.v d :: avs) = (setup ρ (some j) avs).map (d :: ·) := rfl
@[simp] theorem slotOf_n : slotOf none avs = none := slotOf_none avs
@[simp] theorem slotOf_s : slotOf (some 0) (.s i :: avs) = some i := rfl
@[simp] theorem slotOf_v : slotOf (some (j + 1)) (av :: avs) = slotOf (some j) avs := by cases av <;> rfl
@[simp] theorem contS_ow : contS (some (.ow d)) = some d := rfl
@[simp] theorem contS_io : contS (some (.io d)) = some d := rfl
@[simp] theorem contR_ow : contR (some (.ow d)) = some d := rfl
@[simp] theorem contR_io : contR (some (.io d)) = some d := rfl
@[simp] theorem contR_fz : contR (some (.fz d)) = some d := rfl
@[simp] theorem reslot_ow : reslot (some (.ow x)) d = .ow d := rfl
@[simp] theorem reslot_io : reslot (some (.io x)) d = .io d := rfl
@[simp] theorem initS_nil : initS none [] = [] := rfl
@[simp] theorem initS_n : initS none (d :: ds) = .fz d :: initS none ds := rfl
@[simp] theorem initS_0 : initS (some 0) (d :: ds) = .io d :: initS none ds := rfl
@[simp] theorem initS_s : initS (some (j + 1)) (d :: ds) = .fz d :: initS (some j) ds := rfl
@[simp] theorem initE_ap : initE m n ds = initS m ds ++ List.replicate (n - ds.length) .un := rfl
@[simp] theorem fin_n {o : Ob} : fin none d o ρ = .ok d o .non := rfl
@[simp] theorem fin_s {o : Ob} : fin (some j) d o ρ = match ρ[j]? with
    | some (.io out) => .ok d o out
    | _ => .fail := rfl
variable {p q : Int} {xs ys : List D} {s1 s2 : Str} {k1 k2 : Bool}
@[simp] theorem dAdd_i : dAdd (.int p) (.int q) = some (.int (p + q)) := rfl
@[simp] theorem dSub_i : dSub (.int p) (.int q) = some (.int (p - q)) := rfl
@[simp] theorem dMul_i : dMul (.int p) (.int q) = if mulOk p q = true then some (.int (p * q)) else none := rfl
@[simp] theorem dDiv_i : dDiv (.int p) (.int q) = if divOk p q = true then some (.int (p.fdiv q)) else none := rfl
@[simp] theorem dMod_i : dMod (.int p) (.int q) = if modOk p q = true then some (.int (p.fmod q)) else none := rfl
@[simp] theorem dPow_i : dPow (.int p) (.int q) = if powOk p q = true then some (.int (p ^ q.toNat)) else none := rfl
@[simp] theorem dLt_i : dLt (.int p) (.int q) = some (.bl (decide (p < q))) := rfl
@[simp] theorem dLe_i : dLe (.int p) (.int q) = some (.bl (decide (p ≤ q))) := rfl
@[simp] theorem dGt_i : dGt (.int p) (.int q) = some (.bl (decide (q < p))) := rfl
@[simp] theorem dGe_i : dGe (.int p) (.int q) = some (.bl (decide (q ≤ p))) := rfl
@[simp] theorem dNeg_i : dNeg (.int p) = some (.int (-p)) := rfl
@[simp] theorem dEq_i : dEq (.int p) (.int q) = some (.bl (decide (p = q))) := by rw [← Bool.beq_eq_decide_eq]; rfl
@[simp] theorem dNe_i : dNe (.int p) (.int q) = some (.bl (!decide (p = q))) := by rw [← Bool.beq_eq_decide_eq]; rfl
@[simp] theorem dEq_s : dEq (.str s1) (.str s2) = some (.bl (decide (s1 = s2))) := by rw [← Bool.beq_eq_decide_eq]; rfl
@[simp] theorem dNe_s : dNe (.str s1) (.str s2) = some (.bl (!decide (s1 = s2))) := by rw [← Bool.beq_eq_decide_eq]; rfl
@[simp] theorem dIs_b : dIs (.bl k1) (.bl k2) = some (.bl (decide (k1 = k2))) := rfl
@[simp] theorem dIsNot_b : dIsNot (.bl k1) (.bl k2) = some (.bl (!decide (k1 = k2))) := rfl
@[simp] theorem dAbs_i : dAbs [.int p] = some (.int ((p.natAbs : Nat) : Int)) := by
  show some (D.int (if p < 0 then -p else p)) = _
  congr 2
  split <;> omega
@[simp] theorem dLen_l : dLen [.lst xs] = some (.int xs.length) := rfl
@[simp] theorem dLen_t : dLen [.tup xs] = some (.int xs.length) := rfl
@[simp] theorem dLen_c {ns : List Int} : dLen [.scr ns] = some (.int ns.length) := rfl
@[simp] theorem dIx_l : dIx (.lst xs) (.int p) = L2.atI xs p := rfl
@[simp] theorem dIx_t : dIx (.tup xs) (.int p) = L2.atI xs p := rfl
@[simp] theorem dIx_c {ns : List Int} : dIx (.scr ns) (.int p) = (L2.atI ns p).map D.int := rfl
@[simp] theorem dIxL_l : dIxL (.lst xs) (.int p) = L2.atI xs p := rfl
@[simp] theorem at0 {α : Type} {x : α} {xs : List α} : L2.atI (x :: xs) 0 = some x := by
  unfold L2.atI ixN
  simp only [List.length_cons]
  rw [if_pos (by decide), if_pos (by omega)]
  rfl
@[simp] theorem at1 {α : Type} {x y : α} {xs : List α} : L2.atI (x :: y :: xs) 1 = some y := by
  unfold L2.atI ixN
  simp only [List.length_cons]
  rw [if_pos (by decide), if_pos (by omega)]
  rfl
@[simp] theorem ix0 {n : Nat} : ixN (n + 1) 0 = some 0 := by
  unfold ixN
  rw [if_pos (by decide), if_pos (by omega)]; rfl
@[simp] theorem ix1 {n : Nat} : ixN (n + 2) 1 = some 1 := by
  unfold ixN
  rw [if_pos (by decide), if_pos (by omega)]; rfl
theorem mulOk_of {p q : Int} {a b : Nat} (hp : p.natAbs < 2 ^ a) (hq : q.natAbs < 2 ^ b) (h : a + b ≤ 90000000) : mulOk p q = true := by
  unfold mulOk
  rw [decide_eq_true_iff]
  have l : ∀ {n k : Nat}, n < 2 ^ k → n.log2 ≤ k := fun {n k} h => by
    rcases Nat.eq_zero_or_pos n with z | z
    · subst z; simp
    · exact Nat.le_of_lt ((Nat.log2_lt (by omega)).mpr h)
  have h1 := l hp
  have h2 := l hq
  omega
theorem divOk_of {p q : Int} (h0 : q ≠ 0) : divOk p q = true := decide_eq_true h0
@[simp] theorem modOk_of {p q : Int} (h0 : q ≠ 0) : modOk p q = true := by
  unfold modOk
  exact decide_eq_true h0
end
end Dt
namespace Dt
open PySem L2
theorem kit1 : kitB "tuple" "tuple" = some true := by decide +kernel
theorem kit2 : kitB "int" "int" = some true := by decide +kernel
theorem kit3 : kitB "int" "bool" = some false := by decide +kernel
theorem kit4 : kitB "bool" "bool" = some true := by decide +kernel
theorem kit5 : kitB "list" "list" = some true := by decide +kernel
theorem kit6 : kitB "bool" "int" = some true := by decide +kernel
theorem kit7 : kitB "str" "str" = some true := by decide +kernel
section
variable {xs : List D} {i : Int} {k k2 : Bool} {x : Str}
@[simp] theorem isi_tt : dIsi "tuple" (.tup xs) = some (.bl true) := by show (kitB "tuple" "tuple").map D.bl = _; rw [kit1]; rfl
@[simp] theorem isi_ii : dIsi "int" (.int i) = some (.bl true) := by show (kitB "int" "int").map D.bl = _; rw [kit2]; rfl
@[simp] theorem isi_ib : dIsi "bool" (.int i) = some (.bl false) := by show (kitB "int" "bool").map D.bl = _; rw [kit3]; rfl
@[simp] theorem isi_bb : dIsi "bool" (.bl k) = some (.bl true) := by show (kitB "bool" "bool").map D.bl = _; rw [kit4]; rfl
@[simp] theorem isi_ll : dIsi "list" (.lst xs) = some (.bl true) := by show (kitB "list" "list").map D.bl = _; rw [kit5]; rfl
@[simp] theorem isi_bi : dIsi "int" (.bl k) = some (.bl true) := by show (kitB "bool" "int").map D.bl = _; rw [kit6]; rfl
@[simp] theorem isi_ss : dIsi "str" (.str x) = some (.bl true) := by show (kitB "str" "str").map D.bl = _; rw [kit7]; rfl
@[simp] theorem dEq_b : dEq (.bl k) (.bl k2) = some (.bl (k == k2)) := by
  cases k <;> cases k2 <;> rfl
@[simp] theorem dNe_b : dNe (.bl k) (.bl k2) = some (.bl (!(k == k2))) := by
  cases k <;> cases k2 <;> rfl
end
end Dt
namespace Dt
open PySem L2
section
variable {i : Nat} {ρ : Env} {f f1 f2 fk fe : M D} {h : Int → Int → Int} {k d old : D} {ds xs : List D} {z x y : Int}
@[simp] theorem listRg1_ap : mListRg1 f ρ = (f ρ).bnd fun d => M.opt (match d with
  | .int j => if -10000 < j ∧ j < 10000 then some (.lst (rangeD 0 j), .tt) else none
  | _ => none) := rfl
@[simp] theorem listRg2_ap : mListRg2 f1 f2 ρ = (f1 ρ).bnd fun c => M.bind f2 fun d => M.opt (match c, d with
  | .int i, .int j => if (-10000 < i ∧ i < 10000) ∧ (-10000 < j ∧ j < 10000) then some (.lst (rangeD i j), .tt) else none
  | _, _ => none) := rfl
@[simp] theorem popAt_ap : mPopAt i fk ρ = (chkL i ρ).bnd fun _ => M.bind fk fun k => mUpdE i (popD k) := rfl
@[simp] theorem updE_ap {g : List D → Option (D × List D)} : mUpdE i g ρ = match ρ[i]? with
  | some (.ow (.lst ds)) => match g ds with
    | some (d, ds') => .ok d (ρ.set i (.ow (.lst ds')))
    | none => .fail
  | some (.io (.lst ds)) => match g ds with
    | some (d, ds') => .ok d (ρ.set i (.io (.lst ds')))
    | none => .fail
  | _ => .fail := rfl
@[simp] theorem ext_ap : mExt i fe ρ = (chkL i ρ).bnd fun _ => M.bind fe fun d => mUpd i fun ds => match d with
  | .lst es => if ds.length + es.length ≤ 100000 then some (ds ++ es) else none
  | _ => none := rfl
@[simp] theorem ins_ap : mIns i fk fe ρ = (chkL i ρ).bnd fun _ => M.bind fk fun c => M.bind fe fun d => mUpd i fun ds => match c with
  | .int z => if ds.length < 10000 ∧ 0 ≤ z ∧ z < 10000 then some (ds.take z.toNat ++ [d] ++ ds.drop z.toNat) else none
  | _ => none := rfl
@[simp] theorem augI_ap : mAugI i h f ρ = (chk i ρ).bnd fun _ => M.bind f fun d ρ => match ρ[i]?, d with
  | some (.fz (.int z)), .int y => .ok .nx (ρ.set i (.fz (.int (h z y))))
  | _, _ => .fail := rfl
@[simp] theorem augAt_ap : mAugAt i h fk fe ρ = (chkL i ρ).bnd fun _ => M.bind fk fun c => M.bind (mGetV i c) fun old => M.bind fe fun d => mUpd i (augD h c old d) := rfl
@[simp] theorem getV_ap : mGetV i k ρ = match (contR ρ[i]?).bind (getV k) with
  | some z => .ok z ρ
  | none => .fail := rfl
@[simp] theorem catO_ap : mCatO f1 f2 ρ = (f1 ρ).bnd fun c => M.bind f2 fun d => M.opt (match c, d with
  | .lst xs, .lst ys => if tooLong (xs.length + ys.length) = true then none else some (.lst (xs ++ ys), .tt)
  | _, _ => none) := rfl
@[simp] theorem repO_ap : mRepO f1 f2 ρ = (f1 ρ).bnd fun c => M.bind f2 fun d => M.opt (match c, d with
  | .lst xs, .int k => if k < 10000 ∧ -10000 < k ∧ xs.length ≤ 1000 then some (.lst (List.replicate k.toNat xs).flatten, .tt) else none
  | _, _ => none) := rfl
@[simp] theorem isiL_ap {T : String} : mIsiL T i ρ = (chk i ρ).bnd fun _ ρ => match (contR ρ[i]?).bind (dIsi T) with
  | some z => .ok z ρ
  | none => .fail := rfl
@[simp] theorem binL_ap {g : D → D → Option D} : mBinL g i f ρ = (chk i ρ).bnd fun _ => M.bind f fun y ρ => match (contR ρ[i]?).bind fun x => g x y with
  | some z => if scalD z = true then .ok z ρ else .fail
  | none => .fail := rfl
@[simp] theorem scal_bl {k : Bool} : scalD (.bl k) = true := rfl
@[simp] theorem lenL_ap : mLenL i ρ = (chk i ρ).bnd fun _ ρ => match (contR ρ[i]?).bind fun d => dLen [d] with
  | some z => .ok z ρ
  | none => .fail := rfl
end
end Dt
namespace Dt
open PySem L2
def kOk : L2.Key → Bool
  | .inl _ => true
  | .inr x => PyData.strOk x
def okD : Nat → D → Bool
  | _, .non => true
  | _, .bl _ => true
  | _, .int _ => true
  | _, .str x => PyData.strOk x
  | 0, _ => false
  | n + 1, .lst xs => xs.all (okD n)
  | n + 1, .tup xs => xs.all (okD n)
  | _ + 1, .scr _ => true
  | _ + 1, .dic _ _ => false
  | _ + 1, .dct _ _ => false
  | _ + 1, .ins _ _ _ => false
  | _ + 1, .obj _ => false
  | _ + 1, .key ks => ks.all kOk
theorem okD_all {n : Nat} (ih : ∀ d, okD n d = true → d.py.canLay0 = true ∧ d.py.depth ≤ n) : ∀ xs : List D, xs.all (okD n) = true → PyData.canLayAll0 (D.pys xs) = true ∧ PyData.depthAll (D.pys xs) ≤ n
  | [], _ => ⟨by simp [D.pys, PyData.canLayAll0], by simp [D.pys, PyData.depthAll]⟩
  | x :: xs, h => by
    rw [List.all_cons, Bool.and_eq_true] at h
    obtain ⟨a1, a2⟩ := ih x h.1
    obtain ⟨b1, b2⟩ := okD_all ih xs h.2
    refine ⟨by simp [D.pys, PyData.canLayAll0, a1, b1], ?_⟩
    simp only [D.pys, PyData.depthAll]
    omega
theorem canLay_ints : ∀ ns : List Int, PyData.canLayAll0 (ns.map PyData.int) = true
  | [] => by simp [PyData.canLayAll0]
  | n :: ns => by simp [PyData.canLayAll0, PyData.canLay0, canLay_ints ns]
theorem depth_ints : ∀ ns : List Int, PyData.depthAll (ns.map PyData.int) = 0
  | [] => by simp [PyData.depthAll]
  | n :: ns => by simp [PyData.depthAll, PyData.depth, depth_ints ns]
theorem canLay_keys : ∀ ks : List L2.Key, ks.all kOk = true → PyData.canLayAll0 (ks.map kPy) = true
  | [], _ => by simp [PyData.canLayAll0]
  | .inl n :: ns, h => by
    rw [List.all_cons, Bool.and_eq_true] at h
    simp [kPy, PyData.canLayAll0, PyData.canLay0, canLay_keys ns h.2]
  | .inr n :: ns, h => by
    rw [List.all_cons, Bool.and_eq_true] at h
    have h1 : PyData.strOk n = true := h.1
    simp [kPy, PyData.canLayAll0, PyData.canLay0, h1, canLay_keys ns h.2]
theorem depth_keys : ∀ ks : List L2.Key, PyData.depthAll (ks.map kPy) = 0
  | [] => by simp [PyData.depthAll]
  | .inl n :: ns => by simp [kPy, PyData.depthAll, PyData.depth, depth_keys ns]
  | .inr n :: ns => by simp [kPy, PyData.depthAll, PyData.depth, depth_keys ns]
theorem okD_ok : ∀ (n : Nat) (d : D), okD n d = true → d.py.canLay0 = true ∧ d.py.depth ≤ n
  | 0, .non, _ => by simp [D.py, PyData.canLay0, PyData.depth]
  | 0, .bl _, _ => by simp [D.py, PyData.canLay0, PyData.depth]
  | 0, .int _, _ => by simp [D.py, PyData.canLay0, PyData.depth]
  | 0, .str x, h => by
    have h' : PyData.strOk x = true := h
    simp [D.py, PyData.canLay0, PyData.depth, h']
  | 0, .lst _, h => by cases h
  | 0, .tup _, h => by cases h
  | 0, .scr _, h => by cases h
  | 0, .dic _ _, h => by cases h
  | 0, .dct _ _, h => by cases h
  | 0, .ins _ _ _, h => by cases h
  | 0, .obj _, h => by cases h
  | 0, .key _, h => by cases h
  | n + 1, .dic _ _, h => by cases h
  | n + 1, .dct _ _, h => by cases h
  | n + 1, .ins _ _ _, h => by cases h
  | n + 1, .obj _, h => by cases h
  | n + 1, .key ks, h => by
    have h' : ks.all kOk = true := h
    simp [D.py, PyData.canLay0, PyData.depth, canLay_keys ks h', depth_keys ks]
  | n + 1, .non, _ => by simp [D.py, PyData.canLay0, PyData.depth]
  | n + 1, .bl _, _ => by simp [D.py, PyData.canLay0, PyData.depth]
  | n + 1, .int _, _ => by simp [D.py, PyData.canLay0, PyData.depth]
  | n + 1, .str x, h => by
    have h' : PyData.strOk x = true := h
    simp [D.py, PyData.canLay0, PyData.depth, h']
  | n + 1, .lst xs, h => by
    obtain ⟨a, b⟩ := okD_all (okD_ok n) xs h
    refine ⟨by simp [D.py, PyData.canLay0, a], ?_⟩
    simp only [D.py, PyData.depth]
    omega
  | n + 1, .tup xs, h => by
    obtain ⟨a, b⟩ := okD_all (okD_ok n) xs h
    refine ⟨by simp [D.py, PyData.canLay0, a], ?_⟩
    simp only [D.py, PyData.depth]
    omega
  | n + 1, .scr ns, _ => by
    have h1 := canLay_ints ns
    have h2 := depth_ints ns
    refine ⟨by simp [D.py, PyData.canLay0, h1], ?_⟩
    simp only [D.py, PyData.depth]
    omega
theorem shp_of {n : Nat} {d : D} (h : okD n d = true) (hn : n ≤ 64) : shp d = true := by
  obtain ⟨a, b⟩ := okD_ok n d h
  show (d.py.canLay0 && decide (d.py.depth ≤ 64)) = true
  rw [a, Bool.true_and, decide_eq_true_iff]
  omega
def plD : Nat → D → Bool
  | _, .non => true
  | _, .int _ => true
  | _, .str _ => true
  | n + 1, .lst xs => xs.all (plD n)
  | n + 1, .tup xs => xs.all (plD n)
  | _, _ => false
theorem eqv_all {n : Nat} (ih : ∀ d e, plD n d = true → plD n e = true → (PyData.eqv d.py e.py = true ↔ d = e)) : ∀ xs ys : List D, xs.all (plD n) = true → ys.all (plD n) = true → (PyData.eqvAll (D.pys xs) (D.pys ys) = true ↔ xs = ys)
  | [], [], _, _ => by simp [D.pys, PyData.eqvAll]
  | [], _ :: _, _, _ => by simp [D.pys, PyData.eqvAll]
  | _ :: _, [], _, _ => by simp [D.pys, PyData.eqvAll]
  | x :: xs, y :: ys, h, k => by
    rw [List.all_cons, Bool.and_eq_true] at h k
    have h1 := ih x y h.1 k.1
    have h2 := eqv_all ih xs ys h.2 k.2
    simp only [D.pys, PyData.eqvAll, Bool.and_eq_true, h1, h2, List.cons.injEq]
theorem eqv_iff : ∀ (n : Nat) (d e : D), plD n d = true → plD n e = true → (PyData.eqv d.py e.py = true ↔ d = e) := by
  intro n
  induction n with
  | zero =>
    intro d e h k
    cases d <;> cases e <;> first | (simp [D.py, PyData.eqv]; done) | (exact absurd h Bool.false_ne_true) | (exact absurd k Bool.false_ne_true)
  | succ n ih =>
    intro d e h k
    cases d with
    | bl _ => cases h
    | scr _ => cases h
    | dic _ _ => cases h
    | dct _ _ => cases h
    | ins _ _ _ => cases h
    | obj _ => cases h
    | key _ => cases h
    | lst xs =>
      cases e with
      | lst ys =>
        have := eqv_all ih xs ys h k
        simp only [D.py, PyData.eqv, this, D.lst.injEq]
      | bl _ => cases k
      | scr _ => cases k
      | dic _ _ => cases k
      | dct _ _ => cases k
      | ins _ _ _ => cases k
      | obj _ => cases k
      | key _ => cases k
      | _ => simp [D.py, PyData.eqv]
    | tup xs =>
      cases e with
      | tup ys =>
        have := eqv_all ih xs ys h k
        simp only [D.py, PyData.eqv, this, D.tup.injEq]
      | bl _ => cases k
      | scr _ => cases k
      | dic _ _ => cases k
      | dct _ _ => cases k
      | ins _ _ _ => cases k
      | obj _ => cases k
      | key _ => cases k
      | _ => simp [D.py, PyData.eqv]
    | _ =>
      cases e with
      | bl _ => cases k
      | scr _ => cases k
      | dic _ _ => cases k
      | dct _ _ => cases k
      | ins _ _ _ => cases k
      | obj _ => cases k
      | key _ => cases k
      | _ => simp [D.py, PyData.eqv]
def gdD (d : D) : Prop := okD 20 d = true ∧ plD 20 d = true
theorem dEq_self {d : D} (h : gdD d) : dEq d d = some (.bl true) := by
  have s := shp_of h.1 (by decide)
  have q := (eqv_iff 20 d d h.2 h.2).mpr rfl
  cases d with
  | int i => simp
  | str x => simp
  | _ => simp [dEq, s, q]
theorem dEq_ne {d e : D} (h : gdD d) (k : gdD e) (n : d ≠ e) : dEq d e = some (.bl false) := by
  have s := shp_of h.1 (by decide)
  have s2 := shp_of k.1 (by decide)
  have q : PyData.eqv d.py e.py = false := by
    cases z : PyData.eqv d.py e.py with
    | false => rfl
    | true => exact absurd ((eqv_iff 20 d e h.2 k.2).mp z) n
  unfold dEq
  split
  · rename_i i j
    have : i ≠ j := fun z => n (by rw [z])
    simp [this]
  · rename_i i j
    have : i ≠ j := fun z => n (by rw [z])
    simp [this]
  · rw [if_pos ⟨s, s2⟩, q]
theorem dNe_not {d e : D} {k : Bool} (h : dEq d e = some (.bl k)) : dNe d e = some (.bl (!k)) := by
  cases d <;> cases e <;> simp only [dEq, dNe] at h ⊢ <;> first | (injection h with h; injection h with h; rw [h]; done) | (split at h <;> first | (injection h with h; injection h with h; rename_i hh; rw [if_pos hh, h]) | cases h)
theorem dNe_self {d : D} (h : gdD d) : dNe d d = some (.bl false) := dNe_not (dEq_self h)
end Dt
namespace Dt
section
variable {n : Nat} {i : Int} {k : Bool} {xs : List D}
@[simp] theorem okD_int : okD n (.int i) = true := by cases n <;> rfl
@[simp] theorem okD_non : okD n .non = true := by cases n <;> rfl
@[simp] theorem okD_bl : okD n (.bl k) = true := by cases n <;> rfl
@[simp] theorem okD_lst : okD (n + 1) (.lst xs) = xs.all (okD n) := rfl
@[simp] theorem okD_tup : okD (n + 1) (.tup xs) = xs.all (okD n) := rfl
@[simp] theorem plD_int : plD n (.int i) = true := by cases n <;> rfl
@[simp] theorem plD_non : plD n .non = true := by cases n <;> rfl
@[simp] theorem plD_lst : plD (n + 1) (.lst xs) = xs.all (plD n) := rfl
@[simp] theorem plD_tup : plD (n + 1) (.tup xs) = xs.all (plD n) := rfl
end
end Dt
namespace Dt
open PySem L2
def fq (q : Rat) : D := .tup [.int q.num, .int (q.den : Int)]
def eL {α : Type} (f : α → D) (xs : List α) : D := .lst (xs.map f)
def eV {α : Type} (f : α → D) (xs : List α) : D := .tup (xs.map f)
def eT2 {α β : Type} (f : α → D) (g : β → D) (p : α × β) : D := .tup [f p.1, g p.2]
def eT3 {α β γ : Type} (f : α → D) (g : β → D) (h : γ → D) (p : α × β × γ) : D := .tup [f p.1, g p.2.1, h p.2.2]
def eT4 {α β γ δ : Type} (f : α → D) (g : β → D) (h : γ → D) (k : δ → D) (p : α × β × γ × δ) : D := .tup [f p.1, g p.2.1, h p.2.2.1, k p.2.2.2]
def eN (_ : Unit) : D := .non
abbrev Num := List Rat ⊕ List Int
def eNum : Num → D
  | .inl r => eL fq r
  | .inr c => eL D.int c
def numQ (x : Num) : List Rat := match x with
  | .inl r => r
  | .inr _ => []
def numI (x : Num) : List Int := match x with
  | .inl _ => []
  | .inr c => c
def numLen (x : Num) : Nat := match x with
  | .inl r => r.length
  | .inr c => c.length
abbrev Com := Str × Num
abbrev eC : Com → D := eT2 D.str eNum
abbrev Line := List Rat × Rat × Int × Str
abbrev Way := Int × Rat
abbrev Stand := Int × Rat × List Way
abbrev Net := List Line × List Stand × Com
abbrev eLine : Line → D := eT4 (eL fq) fq D.int D.str
abbrev eWay : Way → D := eT2 D.int fq
abbrev eStand : Stand → D := eT3 D.int fq (eL eWay)
abbrev eNet : Net → D := eT3 (eL eLine) (eL eStand) eC
def bd {α β : Sort _} (v : α) (b : α → β) : β := b v
def ixN' (n : Nat) (i : Int) : Nat := if i < 0 then (i + n).toNat else i.toNat
def ix {α : Type} [Inhabited α] (xs : List α) (i : Int) : α := xs.getD (ixN' xs.length i) default
def InB (n : Nat) (i : Int) : Prop := -(n : Int) ≤ i ∧ i < n
def setI {α : Type} (xs : List α) (i : Int) (v : α) : List α := xs.set (ixN' xs.length i) v
def rangeI (lo hi : Int) : List Int := (List.range (hi - lo).toNat).map fun (i : Nat) => lo + (i : Int)
def enumI {α : Type} (xs : List α) : List (Int × α) := (rangeI 0 xs.length).zip xs
def cut {α : Type} (xs : List α) (lo hi : Option Int) : List α := (xs.drop (HT.sIx xs.length 0 lo)).take (HT.sIx xs.length xs.length hi - HT.sIx xs.length 0 lo)
def repI {α : Type} (xs : List α) (k : Int) : List α := (List.replicate k.toNat xs).flatten
def maxL : List Int → Int
  | [] => 0
  | n :: ns => ns.foldl max n
def minL : List Int → Int
  | [] => 0
  | n :: ns => ns.foldl min n
def b2i (k : Bool) : Int := if k then 1 else 0
def sfl {σ α : Type} (f : σ → α → σ) (S : σ → α → Prop) : List α → σ → Prop
  | [], _ => True
  | x :: r, s => S s x ∧ sfl f S r (f s x)
def lcS {σ α β : Type} (p : α → σ → Bool × σ) (e : α → σ → β × σ) : List α → σ → List β × σ
  | [], s => ([], s)
  | x :: r, s => cond (p x s).1 (((e x (p x s).2).1 :: (lcS p e r (e x (p x s).2).2).1), (lcS p e r (e x (p x s).2).2).2) (lcS p e r (p x s).2)
def slcS {σ α β : Type} (p : α → σ → Bool × σ) (e : α → σ → β × σ) (S : α → σ → Prop) : List α → σ → Prop
  | [], _ => True
  | x :: r, s => S x s ∧ (((p x s).1 = true) → slcS p e S r (e x (p x s).2).2) ∧ (((p x s).1 = false) → slcS p e S r (p x s).2)
theorem sfl_T {σ α : Type} {f : σ → α → σ} : ∀ {xs : List α} {s : σ}, sfl f (fun _ _ => True) xs s
  | [], _ => trivial
  | _ :: _, _ => ⟨trivial, sfl_T⟩
theorem slcS_T {σ α β : Type} {p : α → σ → Bool × σ} {e : α → σ → β × σ} : ∀ {xs : List α} {s : σ}, slcS p e (fun _ _ => True) xs s
  | [], _ => trivial
  | _ :: _, _ => ⟨trivial, fun _ => slcS_T, fun _ => slcS_T⟩
section
variable {ρ ρ1 ρ2 ρ3 : Env} {i j n : Nat} {x y z d : D} {xs ys ds : List D} {f f1 f2 f3 fk fe : M D} {fs : M (List D)} {fo : M (D × Ob)} {g : D → D → Option D} {g1 : D → Option D} {gs : List D → Option D} {t u : M Bool} {c c2 : Bool} {o : Ob}
theorem v_fz (h : ρ[i]? = some (.fz d)) : mVar i ρ = .ok d ρ := by unfold mVar; rw [h]
theorem vf (i : Nat) (h : ρ[i]? = some (.fz d)) : mVar i ρ = .ok d ρ := v_fz h
abbrev zI (x : Int) : Slot := .fz (.int x)
abbrev zQ (x : Rat) : Slot := .fz (fq x)
abbrev zL (x : List Rat) : Slot := .fz (eL fq x)
abbrev zJ (x : List Int) : Slot := .fz (eL D.int x)
theorem b2 (h1 : f1 ρ = .ok x ρ1) (h2 : f2 ρ1 = .ok y ρ2) (h3 : g x y = some z) : mBin g f1 f2 ρ = .ok z ρ2 := by
  unfold mBin M.bind; rw [h1]; dsimp only; rw [h2]; dsimp only; unfold M.opt; rw [h3]
theorem u1 (h1 : f ρ = .ok x ρ1) (h3 : g1 x = some z) : mUn g1 f ρ = .ok z ρ1 := by
  unfold mUn M.bind; rw [h1]; dsimp only; unfold M.opt; rw [h3]
theorem a0 : mNil ρ = .ok [] ρ := rfl
theorem a1 (h1 : f ρ = .ok x ρ1) (h2 : fs ρ1 = .ok xs ρ2) : mCons f fs ρ = .ok (x :: xs) ρ2 := by
  unfold mCons M.bind; rw [h1]; dsimp only; rw [h2]; rfl
theorem c1 (h : fs ρ = .ok xs ρ1) (h2 : gs xs = some d) : mCall gs fs ρ = .ok d ρ1 := by
  unfold mCall M.bind; rw [h]; dsimp only; unfold M.opt; rw [h2]
theorem x0 : xNil ρ = .ok [] ρ := rfl
theorem x1 {fx : M (List AV)} {avs : List AV} (h1 : f ρ = .ok x ρ1) (h2 : fx ρ1 = .ok avs ρ2) : xV f fx ρ = .ok (.v x :: avs) ρ2 := by
  unfold xV M.bind; rw [h1]; dsimp only; rw [h2]; rfl
theorem x1s {fx : M (List AV)} {avs : List AV} {s : Slot} (h1 : ρ[i]? = some s) (ho : flat s = true) (h2 : fx ρ = .ok avs ρ2) : xS i fx ρ = .ok (.s i :: avs) ρ2 := by
  unfold xS M.bind; dsimp only; rw [h1]
  cases s with
  | ow d => dsimp only; rw [h2]; rfl
  | io d => dsimp only; rw [h2]; rfl
  | un => cases ho
  | fz d => cases ho
  | dp m d => cases ho
def aft (m : Option Nat) (avs : List AV) (ρ : Env) (out : D) : Env := match slotOf m avs with
  | none => ρ
  | some i => ρ.set i (reslot ρ[i]? out)
theorem cN {fx : M (List AV)} {avs : List AV} {m : Option Nat} {fn : List D → Rf} {out : D} (h : fx ρ = .ok avs ρ1) (hl : avs.length = n) (hs : setup ρ1 m avs = some ds) (hf : fn ds = .ok d o out)
    (hr : aft m avs ρ1 out = ρ2) (ho : o.ok = true := by rfl) : mCallN n m fn fx ρ = .ok (d, o) ρ2 := by
  unfold mCallN mCallF M.bind
  rw [h]; dsimp only
  rw [if_pos hl]
  unfold M.opt; dsimp only
  rw [hs]; dsimp only
  rw [hf]; dsimp only
  rw [if_pos ho, ← hr]; rfl
theorem mfz (h : fo ρ = .ok (d, o) ρ1) (ho : o.ok = true := by rfl) : mFz fo ρ = .ok d ρ1 := by unfold mFz M.bind; rw [h]; dsimp only; rw [if_pos ho]; rfl
theorem mof (h : f ρ = .ok d ρ1) : mOf f ρ = .ok (d, .ff) ρ1 := by unfold mOf M.bind; rw [h]; rfl
theorem mtup (h : fs ρ = .ok xs ρ1) (hl : Nat.ble xs.length 10000 = true := by rfl) : mTup fs ρ = .ok (.tup xs) ρ1 := by
  unfold mTup M.bind; rw [h]; dsimp only; rw [if_pos (Nat.le_of_ble_eq_true hl)]; rfl
theorem mlst (h : fs ρ = .ok xs ρ1) (hl : Nat.ble xs.length 10000 = true := by rfl) : mLst fs ρ = .ok (.lst xs, .tt) ρ1 := by
  unfold mLst M.bind; rw [h]; dsimp only; rw [if_pos (Nat.le_of_ble_eq_true hl)]; rfl
theorem mv_ow (h : ρ[i]? = some (.ow d)) : mMove i ρ = .ok (d, .tt) (ρ.set i .un) := by unfold mMove; rw [h]
theorem tst (h : f ρ = .ok (.bl c) ρ1) : mTest f ρ = .ok c ρ1 := by unfold mTest M.bind; rw [h]; rfl
theorem nt (h : t ρ = .ok c ρ1) : mNot t ρ = .ok (!c) ρ1 := by unfold mNot M.bind; rw [h]; rfl
theorem an (h1 : t ρ = .ok c ρ1) (h2 : c = true → u ρ1 = .ok c2 ρ1) : mAnd t u ρ = .ok (c && c2) ρ1 := by
  unfold mAnd M.bind; rw [h1]
  cases c with
  | true => exact h2 rfl
  | false => rfl
theorem orr (h1 : t ρ = .ok c ρ1) (h2 : c = false → u ρ1 = .ok c2 ρ1) : mOr t u ρ = .ok (c || c2) ρ1 := by
  unfold mOr M.bind; rw [h1]
  cases c with
  | false => exact h2 rfl
  | true => rfl
theorem anS {σ : Type} {ctx : σ → Env} {s1 s2 : σ} (h1 : t ρ = .ok c (ctx s1)) (h2 : c = true → u (ctx s1) = .ok c2 (ctx s2)) : mAnd t u ρ = .ok (c && c2) (ctx (cond c s2 s1)) := by
  unfold mAnd M.bind; rw [h1]
  cases c with
  | true => exact h2 rfl
  | false => rfl
theorem anV (h1 : f1 ρ = .ok (.bl c) ρ1) (h2 : c = true → f2 ρ1 = .ok (.bl c2) ρ1) : mAndV f1 f2 ρ = .ok (.bl (c && c2)) ρ1 := by
  unfold mAndV M.bind; rw [h1]
  cases c with
  | true => exact h2 rfl
  | false => rfl
theorem orV (h1 : f1 ρ = .ok (.bl c) ρ1) (h2 : c = false → f2 ρ1 = .ok (.bl c2) ρ1) : mOrV f1 f2 ρ = .ok (.bl (c || c2)) ρ1 := by
  unfold mOrV M.bind; rw [h1]
  cases c with
  | false => exact h2 rfl
  | true => rfl
theorem ntV (h1 : f ρ = .ok (.bl c) ρ1) : mNotV f ρ = .ok (.bl (!c)) ρ1 := by unfold mNotV M.bind; rw [h1]; rfl
theorem ifeS {α σ : Type} {F : α → D} {v w : α} {ctx : σ → Env} {s1 s2 : σ} (h : t ρ = .ok c ρ1) (h1 : c = true → f1 ρ1 = .ok (F v) (ctx s1)) (h2 : c = false → f2 ρ1 = .ok (F w) (ctx s2)) : mIf t f1 f2 ρ = .ok (F (cond c v w)) (ctx (cond c s1 s2)) := by
  unfold mIf M.bind; rw [h]
  cases c with
  | true => exact h1 rfl
  | false => exact h2 rfl
theorem chn {g' : D → D → Option D} {w : D} (h1 : f1 ρ = .ok x ρ1) (h2 : f2 ρ1 = .ok y ρ2) (h3 : g x y = some (.bl c)) (h4 : c = true → f3 ρ2 = .ok w ρ2) (h5 : c = true → g' y w = some (.bl c2)) : mChain g g' f1 f2 f3 ρ = .ok (.bl (c && c2)) ρ2 := by
  unfold mChain M.bind; rw [h1]; dsimp only; rw [h2]; dsimp only; unfold M.opt; rw [h3]; dsimp only
  cases c with
  | true => dsimp only; rw [h4 rfl]; dsimp only; rw [h5 rfl]; rfl
  | false => rfl
end
section
variable {α β : Type} {F : α → D} {G : β → D} {p q : Int} {s1 s2 : Str} {k1 k2 : Bool}
theorem o_mul (h : mulOk p q = true) : dMul (.int p) (.int q) = some (.int (p * q)) := if_pos h
theorem ixN_of {n : Nat} {i : Int} (h : InB n i) : ixN n i = some (ixN' n i) ∧ ixN' n i < n := by
  obtain ⟨h1, h2⟩ := h
  unfold ixN ixN'
  by_cases q : i < 0
  · rw [if_neg (by omega), if_pos h1, if_pos q]; exact ⟨rfl, by omega⟩
  · rw [if_pos (by omega), if_pos h2, if_neg q]; exact ⟨rfl, by omega⟩
theorem at_of {γ : Type} {F : α → γ} [Inhabited α] {xs : List α} {i : Int} (h : InB xs.length i) : L2.atI (xs.map F) i = some (F (ix xs i)) := by
  obtain ⟨h1, h2⟩ := ixN_of h
  unfold L2.atI ix
  rw [List.length_map, h1]
  show (xs.map F)[ixN' xs.length i]? = _
  rw [List.getElem?_map, List.getElem?_eq_getElem h2, List.getD_eq_getElem?_getD, List.getElem?_eq_getElem h2]
  rfl
theorem o_ixL [Inhabited α] {xs : List α} (h : InB xs.length p) : dIx (eL F xs) (.int p) = some (F (ix xs p)) := at_of h
theorem o_ixLL [Inhabited α] {xs : List α} (h : InB xs.length p) : dIxL (eL F xs) (.int p) = some (F (ix xs p)) := at_of h
theorem o_addL {xs ys : List α} (h : xs.length + ys.length ≤ 10000) : dAdd (eL F xs) (eL F ys) = some (eL F (xs ++ ys)) := by
  unfold eL dAdd
  rw [List.map_append]
  show (if tooLong ((xs.map F).length + (ys.map F).length) = true then none else _) = _
  rw [if_neg (by unfold tooLong; rw [decide_eq_true_iff, List.length_map, List.length_map]; omega)]
theorem map_flat {xs : List α} : ∀ k : Nat, (List.replicate k (xs.map F)).flatten = (List.replicate k xs).flatten.map F
  | 0 => rfl
  | k + 1 => by rw [List.replicate_succ, List.replicate_succ, List.flatten_cons, List.flatten_cons, List.map_append, map_flat k]
theorem o_lenL {xs : List α} : dLen [eL F xs] = some (.int xs.length) := by
  show some (D.int ((xs.map F).length : Int)) = _
  rw [List.length_map]
theorem o_max2 : dMax2 [.int p, .int q] = some (.int (max p q)) := by
  show some (D.int (if q > p then q else p)) = _
  congr 2; omega
theorem o_min2 : dMin2 [.int p, .int q] = some (.int (min p q)) := by
  show some (D.int (if q < p then q else p)) = _
  congr 2; omega
theorem o_sum {xs : List Int} : dSum [eL D.int xs] = some (.int xs.sum) := by
  show (asInts (xs.map D.int)).map (fun ns => D.int ns.sum) = _
  rw [asInts_map]; rfl
theorem o_maxL {xs : List Int} (h : xs ≠ []) : dMaxL [eL D.int xs] = some (.int (maxL xs)) := by
  show ((asInts (xs.map D.int)).bind maxI).map D.int = _
  rw [asInts_map]
  cases xs with
  | nil => exact absurd rfl h
  | cons n ns => rfl
theorem o_minL {xs : List Int} (h : xs ≠ []) : dMinL [eL D.int xs] = some (.int (minL xs)) := by
  show ((asInts (xs.map D.int)).bind minI).map D.int = _
  rw [asInts_map]
  cases xs with
  | nil => exact absurd rfl h
  | cons n ns => rfl
end
end Dt
namespace Dt
open PySem PySem.Spec PyProof.Rows L2
def mKill (is : List Nat) : M Fl := fun ρ => .ok .nx (wipeE ρ is)
def mFrz (i : Nat) : M Fl := fun ρ => match ρ[i]? with
  | some (.ow d) => .ok .nx (ρ.set i (.fz d))
  | some (.dp _ d) => .ok .nx (ρ.set i (.fz d))
  | _ => .ok .nx ρ
theorem Lv.kill {K : PySem.W.Frag} {F : Fr} {ρ : Env} {σ : St} {B H : Hp} (L : Lv K F ρ σ B H) : ∀ is : List Nat, Lv K F (wipeE ρ is) σ B H
  | [] => L
  | i :: is => (Lv.kill L is).slot rfl (fun d z => nomatch z)
section
variable {X : Cx} {W : WX} {sts : List Stmt} {f : M Fl} {is : List Nat} {i : Nat}
theorem svs_kill (h : SVs X W sts f) : SVs X W sts (mSeq (mKill is) f) := fun F ρ σ B H N L P => h F _ σ B H N (L.kill is) P
theorem svs_frz (h : SVs X W sts f) : SVs X W sts (mSeq (mFrz i) f) := by
  intro F ρ σ B H N L P
  have P' : PostS X W F B (M.bind (mFrz i) _ ρ) N := P
  unfold M.bind mFrz at P'
  cases q : ρ[i]? with
  | none => rw [q] at P'; exact h F ρ σ B H N L P'
  | some s =>
    cases s with
    | ow d =>
      rw [q] at P'
      obtain ⟨B', v, e1, _, _, L'⟩ := L.frz q
      exact h F _ σ B' H N L' (PostS.weak P' e1)
    | dp m d =>
      rw [q] at P'
      obtain ⟨B', v, e1, _, _, L'⟩ := L.frz0 q rfl
      exact h F _ σ B' H N L' (PostS.weak P' e1)
    | un => rw [q] at P'; exact h F ρ σ B H N L P'
    | fz d => rw [q] at P'; exact h F ρ σ B H N L P'
    | io d => rw [q] at P'; exact h F ρ σ B H N L P'
end
section
variable {α β : Type} {F : α → D} {G : β → D} {ρ ρ1 ρ2 : Env} {f f1 f2 : M D} {fs : M (List D)} {ds : List D}
theorem rangeD_eq (lo hi : Int) : rangeD lo hi = (rangeI lo hi).map D.int := by
  unfold rangeD rangeI
  rw [List.map_map]; rfl
theorem i_L {xs : List α} (h : f ρ = .ok (eL F xs) ρ1) : mIter f ρ = .ok (xs.map F) ρ1 := by unfold mIter M.bind; rw [h]; rfl
theorem i_r1 {j : Int} (h : fs ρ = .ok [.int j] ρ1) (hb : -100000000 < j ∧ j < 100000000) : mRange1 fs ρ = .ok ((rangeI 0 j).map D.int) ρ1 := by
  unfold mRange1 M.bind; rw [h]; dsimp only; rw [if_pos hb, rangeD_eq]; rfl
theorem zip_eq : ∀ (xs : List α) (ys : List β), List.zipWith (fun x y => D.tup [x, y]) (xs.map F) (ys.map G) = (xs.zip ys).map (eT2 F G)
  | [], ys => by simp
  | x :: xs, [] => by simp
  | x :: xs, y :: ys => by
    simp only [List.map_cons, List.zipWith_cons_cons, List.zip_cons_cons, zip_eq xs ys]
    rfl
theorem i_zip {xs : List α} {ys : List β} (h : fs ρ = .ok [eL F xs, eL G ys] ρ1) : mZip fs ρ = .ok ((xs.zip ys).map (eT2 F G)) ρ1 := by
  unfold mZip M.bind; rw [h]; dsimp only [eL]; rw [zip_eq]; rfl
theorem enum_eq : ∀ (k : Nat) (xs : List α), enumD k (xs.map F) = (((List.range' k xs.length).map fun (i : Nat) => (i : Int)).zip xs).map (eT2 D.int F)
  | k, [] => rfl
  | k, x :: xs => by
    rw [List.map_cons, List.length_cons, List.range'_succ]
    show D.tup [.int (k : Nat), F x] :: enumD (k + 1) (xs.map F) = _
    rw [enum_eq (k + 1) xs]; rfl
theorem rangeI_nat (n : Nat) : rangeI 0 n = (List.range' 0 n).map fun (i : Nat) => (i : Int) := by
  unfold rangeI
  rw [Int.sub_zero, Int.toNat_natCast, List.range_eq_range']
  refine List.map_congr_left fun i _ => ?_
  omega
theorem i_enum {xs : List α} (h : fs ρ = .ok [eL F xs] ρ1) : mEnum fs ρ = .ok ((enumI xs).map (eT2 D.int F)) ρ1 := by
  unfold mEnum M.bind; rw [h]; dsimp only [eL]; rw [enum_eq]; unfold enumI; rw [rangeI_nat]; rfl
theorem cut_map {xs : List α} {lo hi : Option Int} : cutD (xs.map F) lo hi = (cut xs lo hi).map F := by
  unfold cutD cut
  rw [List.length_map, List.map_take, List.map_drop]
theorem pt0 : mPart none ρ = .ok none ρ := rfl
theorem pt1 {i : Int} (h : f ρ = .ok (.int i) ρ1) : mPart (some f) ρ = .ok (some i) ρ1 := by unfold mPart M.bind; dsimp only; rw [h]; rfl
theorem slL {xs : List α} {fl fh : M (Option Int)} {lo hi : Option Int} {ρ3 : Env} (h : f ρ = .ok (eL F xs) ρ1) (hl : fl ρ1 = .ok lo ρ2) (hh : fh ρ2 = .ok hi ρ3) : mSl f fl fh ρ = .ok (eL F (cut xs lo hi), .tt) ρ3 := by
  unfold mSl M.bind; rw [h]; dsimp only; rw [hl]; dsimp only; rw [hh]; dsimp only [eL, dSl]; rw [cut_map]; rfl
theorem slT {xs ys : List D} {fl fh : M (Option Int)} {lo hi : Option Int} {ρ3 : Env} (h : f ρ = .ok (.tup xs) ρ1) (hl : fl ρ1 = .ok lo ρ2) (hh : fh ρ2 = .ok hi ρ3) (e : cutD xs lo hi = ys) : mSl f fl fh ρ = .ok (.tup ys, .ff) ρ3 := by
  unfold mSl M.bind; rw [h]; dsimp only; rw [hl]; dsimp only; rw [hh]; dsimp only [dSl]; rw [e]; rfl
theorem revL {xs : List α} (h : f ρ = .ok (eL F xs) ρ1) : mRevL f ρ = .ok (eL F xs.reverse, .tt) ρ1 := by
  unfold mRevL M.bind; rw [h]; dsimp only [eL]; rw [List.map_reverse]; rfl
theorem lofL {xs : List α} (h : fs ρ = .ok [eL F xs] ρ1) : mListOf fs ρ = .ok (eL F xs, .tt) ρ1 := by unfold mListOf M.bind; rw [h]; rfl
theorem lrg1 {j : Int} (h : f ρ = .ok (.int j) ρ1) (hb : -10000 < j ∧ j < 10000) : mListRg1 f ρ = .ok (eL D.int (rangeI 0 j), .tt) ρ1 := by
  unfold mListRg1 M.bind; rw [h]; dsimp only; rw [if_pos hb, rangeD_eq]; rfl
theorem catO {xs ys : List α} (h : f1 ρ = .ok (eL F xs) ρ1) (h2 : f2 ρ1 = .ok (eL F ys) ρ2) (hl : xs.length + ys.length ≤ 10000) : mCatO f1 f2 ρ = .ok (eL F (xs ++ ys), .tt) ρ2 := by
  unfold mCatO M.bind; rw [h]; dsimp only; rw [h2]; dsimp only [eL]
  rw [if_neg (by unfold tooLong; rw [decide_eq_true_iff, List.length_map, List.length_map]; omega), List.map_append]; rfl
theorem repO {xs : List α} {q : Int} (h : f1 ρ = .ok (eL F xs) ρ1) (h2 : f2 ρ1 = .ok (.int q) ρ2) (hl : q < 10000 ∧ -10000 < q ∧ xs.length ≤ 1000) : mRepO f1 f2 ρ = .ok (eL F (repI xs q), .tt) ρ2 := by
  unfold mRepO M.bind; rw [h]; dsimp only; rw [h2]; dsimp only [eL]
  rw [if_pos (by rw [List.length_map]; exact hl), map_flat]; rfl
end
section
variable {α β σ : Type} {F : α → D} {G : β → D} {own : List Nat} {f : M (List D)} {g : D → Env → Option Env} {t : M Bool} {e : M D} {ρ ρ0 ρ1 ρ9 : Env}
theorem lcL_pure {p : α → Bool} {φ : α → β} : ∀ (xs : List α) (acc : List D), (∀ x ∈ xs, ∃ ρx, g (F x) ρ1 = some ρx ∧ t ρx = .ok (p x) ρx ∧ wipeE ρx own = ρ1 ∧ (p x = true → ∃ ρz, e ρx = .ok (G (φ x)) ρz ∧ wipeE ρz own = ρ1)) → acc.length + xs.length ≤ 10000 →
    mLcL own g t e (xs.map F) acc ρ1 = .ok (acc ++ ((xs.filter p).map φ).map G) ρ1
  | [], acc, _, _ => by simp [mLcL, M.pure]
  | x :: xs, acc, h, hl => by
    obtain ⟨ρx, h1, h2, h3, h4⟩ := h x (by simp)
    rw [List.length_cons] at hl
    have ih := fun acc' hl' => lcL_pure (p := p) (φ := φ) xs acc' (fun y hy => h y (List.mem_cons_of_mem _ hy)) hl'
    rw [List.map_cons]
    unfold mLcL
    rw [h1]
    dsimp only
    unfold M.bind mNoR
    rw [h2]
    dsimp only
    cases q : p x with
    | false =>
      rw [List.filter_cons_of_neg (by simp [q])]
      dsimp only
      rw [h3]
      exact ih acc (by omega)
    | true =>
      obtain ⟨ρz, h5, h6⟩ := h4 q
      rw [List.filter_cons_of_pos q]
      dsimp only
      rw [h5]
      dsimp only
      rw [if_pos (by omega), h6, ih _ (by rw [List.length_append, List.length_singleton]; omega)]
      simp
theorem lcP {p : α → Bool} {φ : α → β} {xs : List α} (hf : f ρ = .ok (xs.map F) ρ0) (hρ : wipeE ρ0 own = ρ1) (hb : ∀ x ∈ xs, ∃ ρx, g (F x) ρ1 = some ρx ∧ t ρx = .ok (p x) ρx ∧ wipeE ρx own = ρ1 ∧ (p x = true → ∃ ρz, e ρx = .ok (G (φ x)) ρz ∧ wipeE ρz own = ρ1)) (hl : xs.length ≤ 10000) (h9 : wipeE ρ1 own = ρ9) :
    mLc own f g t e ρ = .ok (eL G ((xs.filter p).map φ), .tt) ρ9 := by
  unfold mLc M.bind
  rw [hf]
  dsimp only
  rw [hρ, lcL_pure xs [] hb (by simpa using hl)]
  dsimp only
  rw [h9]; rfl
theorem lcM {φ : α → β} {xs : List α} (hf : f ρ = .ok (xs.map F) ρ0) (hρ : wipeE ρ0 own = ρ1) (hb : ∀ x ∈ xs, ∃ ρx, g (F x) ρ1 = some ρx ∧ wipeE ρx own = ρ1 ∧ ∃ ρz, e ρx = .ok (G (φ x)) ρz ∧ wipeE ρz own = ρ1) (hl : xs.length ≤ 10000) (h9 : wipeE ρ1 own = ρ9) :
    mLc own f g (M.pure true) e ρ = .ok (eL G (xs.map φ), .tt) ρ9 := by
  have := lcP (t := M.pure true) (p := fun _ => true) (φ := φ) hf hρ (fun x hx => by
    obtain ⟨ρx, h1, h2, h3⟩ := hb x hx
    exact ⟨ρx, h1, rfl, h2, fun _ => h3⟩) hl h9
  rw [List.filter_eq_self.mpr (fun _ _ => rfl)] at this
  exact this
theorem lcL_st {ctx : σ → Env} {p : α → σ → Bool × σ} {φ : α → σ → β × σ} {S : α → σ → Prop} : ∀ (xs : List α) (acc : List D) (s : σ), slcS p φ S xs s →
    (∀ x s, S x s → ∃ (cx : σ → Env), g (F x) (ctx s) = some (cx s) ∧ t (cx s) = .ok (p x s).1 (cx (p x s).2) ∧ (∀ s', wipeE (cx s') own = ctx s') ∧ ((p x s).1 = true → e (cx (p x s).2) = .ok (G (φ x (p x s).2).1) (cx (φ x (p x s).2).2))) → acc.length + xs.length ≤ 10000 →
    mLcL own g t e (xs.map F) acc (ctx s) = .ok (acc ++ (lcS p φ xs s).1.map G) (ctx (lcS p φ xs s).2)
  | [], acc, s, _, _, _ => by simp [mLcL, M.pure, lcS]
  | x :: xs, acc, s, hs, h, hl => by
    obtain ⟨cx, h1, h2, h3, h4⟩ := h x s hs.1
    rw [List.length_cons] at hl
    have ih := fun acc' s' hs' hl' => lcL_st (p := p) (φ := φ) (S := S) xs acc' s' hs' h hl'
    rw [List.map_cons]
    unfold mLcL
    rw [h1]
    dsimp only
    unfold M.bind mNoR
    rw [h2]
    dsimp only
    unfold lcS
    cases q : (p x s).1 with
    | false =>
      dsimp only [cond_false]
      rw [h3]
      exact ih acc _ (hs.2.2 q) (by omega)
    | true =>
      dsimp only [cond_true]
      rw [h4 q]
      dsimp only
      rw [if_pos (by omega), h3, ih _ _ (hs.2.1 q) (by rw [List.length_append, List.length_singleton]; omega)]
      simp
theorem lcSt {ctx ctx9 : σ → Env} {p : α → σ → Bool × σ} {φ : α → σ → β × σ} {S : α → σ → Prop} {xs : List α} {s : σ} (hf : f ρ = .ok (xs.map F) ρ0) (hρ : wipeE ρ0 own = ctx s) (hs : slcS p φ S xs s)
    (hb : ∀ x s, S x s → ∃ (cx : σ → Env), g (F x) (ctx s) = some (cx s) ∧ t (cx s) = .ok (p x s).1 (cx (p x s).2) ∧ (∀ s', wipeE (cx s') own = ctx s') ∧ ((p x s).1 = true → e (cx (p x s).2) = .ok (G (φ x (p x s).2).1) (cx (φ x (p x s).2).2))) (hl : xs.length ≤ 10000) (h9 : ∀ s, wipeE (ctx s) own = ctx9 s) :
    mLc own f g t e ρ = .ok (eL G (lcS p φ xs s).1, .tt) (ctx9 (lcS p φ xs s).2) := by
  unfold mLc M.bind
  rw [hf]
  dsimp only
  rw [hρ, lcL_st xs [] s hs hb (by simpa using hl)]
  dsimp only
  rw [h9]; rfl
end
section
variable {β τ : Type} {J : Rs Fl → β → Prop} {ρ ρ1 ρ2 : Env} {f g k : M Fl} {fo : M (D × Ob)} {fd fk fe : M D} {fs : M (List D)} {t : M Bool} {c : Bool} {x y : β} {d d2 : D} {i j : Nat} {o : Ob}
theorem sq_eq (h1 : f ρ = .ok .nx ρ1) : mSeq f g ρ = g ρ1 := by unfold mSeq M.bind; rw [h1]
theorem sq (h1 : f ρ = .ok .nx ρ1) (h2 : J (g ρ1) x) : J (mSeq f g ρ) x := by rw [sq_eq h1]; exact h2
theorem sqB {ctx : τ → Env} {v : τ} {b : τ → β} {S : τ → Prop} (h1 : f ρ = .ok .nx (ctx v)) (hs : bd v S) (h2 : ∀ v, S v → J (g (ctx v)) (b v)) : J (mSeq f g ρ) (bd v b) := sq h1 (h2 v hs)
theorem mIf_t {α : Type} {f g : M α} (h : t ρ = .ok true ρ1) : mIf t f g ρ = f ρ1 := by unfold mIf M.bind; rw [h]
theorem mIf_f {α : Type} {f g : M α} (h : t ρ = .ok false ρ1) : mIf t f g ρ = g ρ1 := by unfold mIf M.bind; rw [h]
theorem sqIf (h : t ρ = .ok c ρ1) (h1 : c = true → J (mSeq f k ρ1) x) (h2 : c = false → J (mSeq g k ρ1) y) : J (mSeq (mIf t f g) k ρ) (cond c x y) := by
  cases c with
  | true =>
    have e : mSeq (mIf t f g) k ρ = mSeq f k ρ1 := by unfold mSeq M.bind; rw [mIf_t h]
    rw [e]; exact h1 rfl
  | false =>
    have e : mSeq (mIf t f g) k ρ = mSeq g k ρ1 := by unfold mSeq M.bind; rw [mIf_f h]
    rw [e]; exact h2 rfl
theorem ifJ {ctx : τ → Env} {v w : τ} (h : t ρ = .ok c ρ1) (h1 : c = true → f ρ1 = .ok .nx (ctx v)) (h2 : c = false → g ρ1 = .ok .nx (ctx w)) : mIf t f g ρ = .ok .nx (ctx (cond c v w)) := by
  unfold mIf M.bind; rw [h]
  cases c with
  | true => exact h1 rfl
  | false => exact h2 rfl
theorem sSet (h : fo ρ = .ok (d, .ff) ρ1) (e : ρ1.set i (.fz d) = ρ2) : mSet i fo ρ = .ok .nx ρ2 := by unfold mSet M.bind; rw [h]; subst e; rfl
theorem sSetO (h : fo ρ = .ok (d, .tt) ρ1) (e : ρ1.set i (.ow d) = ρ2) : mSet i fo ρ = .ok .nx ρ2 := by unfold mSet M.bind; rw [h]; subst e; rfl
theorem sAsg {gg : D → Env → Option Env} (h : fd ρ = .ok d ρ1) (e : gg d ρ1 = some ρ2) : mAsg gg fd ρ = .ok .nx ρ2 := by unfold mAsg M.bind; rw [h]; dsimp only; rw [e]
theorem sDrop (h : fd ρ = .ok d ρ1) : mDrop fd ρ = .ok .nx ρ1 := by unfold mDrop M.bind; rw [h]; rfl
theorem sKill {is : List Nat} (e : wipeE ρ is = ρ2) : mKill is ρ = .ok .nx ρ2 := by unfold mKill; rw [e]
theorem sFrz (h : ρ[i]? = some (.ow d)) (e : ρ.set i (.fz d) = ρ2) : mFrz i ρ = .ok .nx ρ2 := by unfold mFrz; rw [h]; dsimp only; rw [e]
theorem ret_eq (h : fo ρ = .ok (d, o) ρ1) : mRet fo ρ = .ok (.rt d o) ρ1 := by unfold mRet M.bind; rw [h]; rfl
theorem sRet (h : fo ρ = .ok (d, o) ρ1) (h2 : J (.ok (.rt d o) ρ1) x) : J (mRet fo ρ) x := by rw [ret_eq h]; exact h2
theorem sqRet (h : fo ρ = .ok (d, o) ρ1) (h2 : J (.ok (.rt d o) ρ1) x) : J (mSeq (mRet fo) g ρ) x := by
  unfold mSeq M.bind; rw [ret_eq h]; exact h2
variable {α : Type} {F : α → D} {xs : List α} {v : α} {z : Int}
theorem sPutO (h1 : fe ρ = .ok (F v) ρ1) (h2 : fk ρ1 = .ok (.int z) ρ2) (h0 : ρ1[i]? = some (.ow (eL F xs))) (h : ρ2[i]? = some (.ow (eL F xs))) (hb : InB xs.length z) {ρ3 : Env} (e : ρ2.set i (.ow (eL F (setI xs z v))) = ρ3) : mPutAt i fe fk ρ = .ok .nx ρ3 := by
  obtain ⟨a, b⟩ := ixN_of hb
  unfold mPutAt M.bind
  rw [h1]; dsimp only
  unfold chk
  rw [h0]; dsimp only
  rw [h2]; dsimp only
  rw [h]; dsimp only [eL]
  rw [List.length_map, a]; dsimp only
  rw [← e]; unfold setI eL; rw [List.map_set]
theorem sApp (h1 : fe ρ = .ok (F v) ρ1) (h0 : ∃ ys : List α, ρ[i]? = some (.ow (eL F ys))) (h : ρ1[i]? = some (.ow (eL F xs))) (hl : xs.length < 10000) (e : ρ1.set i (.ow (eL F (xs ++ [v]))) = ρ2) : mApp1 i fe ρ = .ok .nx ρ2 := by
  obtain ⟨ys, h0⟩ := h0
  unfold mApp1 M.bind chkL
  dsimp only
  rw [h0]; dsimp only [eL]
  rw [h1]; dsimp only
  unfold mUpd
  rw [h]; dsimp only [eL]
  rw [if_pos (by rw [List.length_map]; exact hl)]; dsimp only
  rw [← e]; unfold eL; rw [List.map_append]; rfl
theorem sAugAt {h : Int → Int → Int} {ns : List Int} {ρ3 : Env} {b : Int} (h0 : ∃ ys : List Int, ρ[i]? = some (.ow (eL D.int ys))) (h1 : fk ρ = .ok (.int z) ρ1) (h2 : ρ1[i]? = some (.ow (eL D.int ns))) (h3 : fe ρ1 = .ok (.int b) ρ2) (h4 : ρ2[i]? = some (.ow (eL D.int ns))) (hb : 0 ≤ z ∧ z < ns.length) (hl : ns.length ≤ 10000)
    (e : ρ2.set i (.ow (eL D.int (setI ns z (h (ix ns z) b)))) = ρ3) : mAugAt i h fk fe ρ = .ok .nx ρ3 := by
  obtain ⟨_, h0⟩ := h0
  have ib : InB ns.length z := ⟨by omega, hb.2⟩
  have at1 : L2.atI (ns.map D.int) z = some (.int (ix ns z)) := at_of ib
  obtain ⟨a, b'⟩ := ixN_of ib
  unfold mAugAt M.bind chkL
  dsimp only
  rw [h0]; dsimp only [eL]
  rw [h1]; dsimp only
  unfold mGetV
  rw [h2]; dsimp only [eL, contR, Option.bind]
  have gv : getV (.int z) (.lst (ns.map D.int)) = some (.int (ix ns z)) := by
    show (if 0 ≤ z then L2.atI (ns.map D.int) z else none) = _
    rw [if_pos hb.1, at1]
  rw [gv]; dsimp only
  rw [h3]; dsimp only
  unfold mUpd
  rw [h4]; dsimp only [eL]
  have ad : augD h (.int z) (.int (ix ns z)) (.int b) (ns.map D.int) = some ((setI ns z (h (ix ns z) b)).map D.int) := by
    show (if 0 ≤ z then (ixN (ns.map D.int).length z).map (fun j => (ns.map D.int).set j (.int (h (ix ns z) b))) else none) = _
    rw [if_pos hb.1, List.length_map, a]
    unfold setI
    rw [List.map_set]; rfl
  rw [ad]; dsimp only
  rw [← e]; rfl
end
end Dt
namespace Dt
open PySem L2
section
variable {β γ σ : Type}
def JN (ctx : σ → Env) (r : Rs Fl) (s : σ) : Prop := r = .ok .nx (ctx s)
def JR (F : β → D) (o : Ob) (r : Rs Fl) (x : β) : Prop := ∃ ρ', r = .ok (.rt (F x) o) ρ'
def JI (j : Nat) (F : β → D) (G : γ → D) (o : Ob) (r : Rs Fl) (x : β × γ) : Prop := ∃ ρ', r = .ok (.rt (F x.1) o) ρ' ∧ ρ'[j]? = some (.io (G x.2))
def JE (r : Rs Fl) (_ : Unit) : Prop := ∃ ρ', r = .ok .nx ρ'
variable {n j : Nat} {fb : M Fl} {ds : List D} {F : β → D} {G : γ → D} {o : Ob} {ρ : Env}
theorem jr_mk {x : β} {d : D} (e : d = F x) : JR F o (.ok (.rt d o) ρ) x := ⟨ρ, by rw [e]⟩
theorem ji_mk {a : β} {b : γ} {d : D} (e : d = F a) (h : ρ[j]? = some (.io (G b))) : JI j F G o (.ok (.rt d o) ρ) (a, b) := ⟨ρ, by rw [e], h⟩
theorem run0 {x : β} (h : JR F o (fb (initE none n ds)) x) : runF none n fb ds = .ok (F x) o .non := by
  obtain ⟨ρ', h⟩ := h
  unfold runF; rw [h]; rfl
theorem runI {x : β × γ} (h : JI j F G o (fb (initE (some j) n ds)) x) : runF (some j) n fb ds = .ok (F x.1) o (G x.2) := by
  obtain ⟨ρ', h, h2⟩ := h
  unfold runF; rw [h]; dsimp only; unfold fin; dsimp only; rw [h2]
theorem runE {x : Unit} (h : JE (fb (initE none n ds)) x) : runF none n fb ds = .ok (eN x) .ff .non := by
  obtain ⟨ρ', h⟩ := h
  unfold runF; rw [h]; rfl
end
section
variable {α β γ σ : Type} {F : α → D} {f : M (List D)} {g : D → Env → Option Env} {b k : M Fl} {ρ : Env} {ctx : σ → Env}
theorem forL_fl {step : σ → α → σ} {S : σ → α → Prop} (hb : ∀ s x, S s x → ∃ ρ1, g (F x) (ctx s) = some ρ1 ∧ JN ctx (b ρ1) (step s x)) : ∀ (xs : List α) (s : σ), sfl step S xs s → mForL g b (xs.map F) (ctx s) = .ok .nx (ctx (xs.foldl step s))
  | [], s, _ => rfl
  | x :: r, s, h => by
    obtain ⟨ρ1, h1, h2⟩ := hb s x h.1
    unfold JN at h2
    rw [List.map_cons]
    unfold mForL
    rw [h1]; dsimp only
    unfold M.bind
    rw [h2]
    exact forL_fl hb r _ h.2
theorem forN {step : σ → α → σ} {S : σ → α → Prop} {xs : List α} {s : σ} (hf : f ρ = .ok (xs.map F) (ctx s)) (hs : sfl step S xs s) (hb : ∀ s x, S s x → ∃ ρ1, g (F x) (ctx s) = some ρ1 ∧ JN ctx (b ρ1) (step s x)) : mFor f g b ρ = .ok .nx (ctx (xs.foldl step s)) := by
  unfold mFor M.bind
  rw [hf]
  exact forL_fl hb xs s hs
end
structure Gd (n : Nat) {α : Type} (F : α → D) : Prop where
  ok : ∀ x, okD n (F x) = true
  pl : ∀ x, plD n (F x) = true
  inj : ∀ x y, F x = F y → x = y
section
variable {n m : Nat} {α β γ δ : Type} {F : α → D} {G : β → D} {H : γ → D} {K : δ → D}
theorem okD_up : ∀ {n m : Nat} {d : D}, n ≤ m → okD n d = true → okD m d = true
  | n, m, .non, _, _ => okD_non
  | n, m, .bl _, _, _ => okD_bl
  | n, m, .int _, _, _ => okD_int
  | n, m, .str x, _, h => by cases n <;> cases m <;> exact h
  | 0, _, .lst _, _, h => by cases h
  | 0, _, .tup _, _, h => by cases h
  | 0, _, .scr _, _, h => by cases h
  | n, m, .dic _ _, _, h => by cases n <;> cases h
  | n, m, .dct _ _, _, h => by cases n <;> cases h
  | n, m, .ins _ _ _, _, h => by cases n <;> cases h
  | n, m, .obj _, _, h => by cases n <;> cases h
  | 0, _, .key _, _, h => by cases h
  | n + 1, m + 1, .key _, _, h => h
  | n + 1, 0, _, hm, _ => by omega
  | n + 1, m + 1, .lst xs, hm, h => by
    rw [okD_lst, List.all_eq_true] at h ⊢
    exact fun x hx => okD_up (by omega) (h x hx)
  | n + 1, m + 1, .tup xs, hm, h => by
    rw [okD_tup, List.all_eq_true] at h ⊢
    exact fun x hx => okD_up (by omega) (h x hx)
  | n + 1, m + 1, .scr _, _, _ => rfl
theorem plD_up : ∀ {n m : Nat} {d : D}, n ≤ m → plD n d = true → plD m d = true
  | n, m, .non, _, _ => plD_non
  | n, m, .bl _, _, h => by cases n <;> cases h
  | n, m, .int _, _, _ => plD_int
  | n, m, .str x, _, h => by cases m <;> rfl
  | 0, _, .lst _, _, h => by cases h
  | 0, _, .tup _, _, h => by cases h
  | n, _, .scr _, _, h => by cases n <;> cases h
  | n, _, .dic _ _, _, h => by cases n <;> cases h
  | n, _, .dct _ _, _, h => by cases n <;> cases h
  | n, _, .ins _ _ _, _, h => by cases n <;> cases h
  | n, _, .obj _, _, h => by cases n <;> cases h
  | n, _, .key _, _, h => by cases n <;> cases h
  | n + 1, 0, _, hm, _ => by omega
  | n + 1, m + 1, .lst xs, hm, h => by
    rw [plD_lst, List.all_eq_true] at h ⊢
    exact fun x hx => plD_up (by omega) (h x hx)
  | n + 1, m + 1, .tup xs, hm, h => by
    rw [plD_tup, List.all_eq_true] at h ⊢
    exact fun x hx => plD_up (by omega) (h x hx)
theorem Gd.up (h : Gd n F) (l : n ≤ m) : Gd m F := ⟨fun x => okD_up l (h.ok x), fun x => plD_up l (h.pl x), h.inj⟩
theorem gI : Gd 0 D.int := ⟨fun _ => rfl, fun _ => rfl, fun x y h => by injection h⟩
theorem gQ : Gd 1 fq := ⟨fun _ => rfl, fun _ => rfl, fun x y h => by
  injection h with h
  injection h with h1 h
  injection h with h2 h
  injection h1 with h1
  injection h2 with h2
  exact Rat.ext h1 (by omega)⟩
theorem map_inj (h : ∀ x y, F x = F y → x = y) : ∀ {xs ys : List α}, xs.map F = ys.map F → xs = ys
  | [], [], _ => rfl
  | [], _ :: _, e => by cases e
  | _ :: _, [], e => by cases e
  | x :: xs, y :: ys, e => by
    injection e with e1 e2
    rw [h x y e1, map_inj h e2]
theorem gL (h : Gd n F) : Gd (n + 1) (eL F) := ⟨fun xs => by
    show (xs.map F).all (okD n) = true
    rw [List.all_map, List.all_eq_true]; exact fun x _ => h.ok x, fun xs => by
    show (xs.map F).all (plD n) = true
    rw [List.all_map, List.all_eq_true]; exact fun x _ => h.pl x, fun x y e => by injection e with e; exact map_inj h.inj e⟩
theorem gT2 (h : Gd n F) (k : Gd n G) : Gd (n + 1) (eT2 F G) := ⟨fun p => by
    show (okD n (F p.1) && (okD n (G p.2) && true)) = true
    rw [h.ok, k.ok]; rfl, fun p => by
    show (plD n (F p.1) && (plD n (G p.2) && true)) = true
    rw [h.pl, k.pl]; rfl, fun x y e => by
    injection e with e
    injection e with e1 e
    injection e with e2 e
    exact Prod.ext (h.inj _ _ e1) (k.inj _ _ e2)⟩
theorem gT3 (h : Gd n F) (k : Gd n G) (l : Gd n H) : Gd (n + 1) (eT3 F G H) := ⟨fun p => by
    show (okD n (F p.1) && (okD n (G p.2.1) && (okD n (H p.2.2) && true))) = true
    rw [h.ok, k.ok, l.ok]; rfl, fun p => by
    show (plD n (F p.1) && (plD n (G p.2.1) && (plD n (H p.2.2) && true))) = true
    rw [h.pl, k.pl, l.pl]; rfl, fun x y e => by
    injection e with e
    injection e with e1 e
    injection e with e2 e
    injection e with e3 e
    exact Prod.ext (h.inj _ _ e1) (Prod.ext (k.inj _ _ e2) (l.inj _ _ e3))⟩
theorem Gd.gd (h : Gd n F) (l : n ≤ 20 := by decide) (x : α) : gdD (F x) := ⟨okD_up l (h.ok x), plD_up l (h.pl x)⟩
theorem o_eq [DecidableEq α] (h : Gd n F) {x y : α} (l : n ≤ 20 := by decide) : dEq (F x) (F y) = some (.bl (decide (x = y))) := by
  by_cases q : x = y
  · subst q; rw [dEq_self (h.gd l x)]; simp
  · rw [dEq_ne (h.gd l x) (h.gd l y) (fun z => q (h.inj x y z))]; simp [q]
theorem o_ne [DecidableEq α] (h : Gd n F) {x y : α} (l : n ≤ 20 := by decide) : dNe (F x) (F y) = some (.bl (!decide (x = y))) := dNe_not (o_eq h l)
structure Gx (n : Nat) {α : Type} (F : α → D) : Prop where
  pl : ∀ x, plD n (F x) = true
  inj : ∀ x y, F x = F y → x = y
theorem Gd.gx (h : Gd n F) : Gx n F := ⟨h.pl, h.inj⟩
theorem Gx.up (h : Gx n F) (l : n ≤ m) : Gx m F := ⟨fun x => plD_up l (h.pl x), h.inj⟩
theorem xSt : Gx 0 D.str := ⟨fun _ => rfl, fun x y h => by injection h⟩
theorem xL (h : Gx n F) : Gx (n + 1) (eL F) := ⟨fun xs => by
    show (xs.map F).all (plD n) = true
    rw [List.all_map, List.all_eq_true]; exact fun x _ => h.pl x, fun x y e => by injection e with e; exact map_inj h.inj e⟩
theorem xT4 (h : Gx n F) (k : Gx n G) (l : Gx n H) (m : Gx n K) : Gx (n + 1) (eT4 F G H K) := ⟨fun p => by
    show (plD n (F p.1) && (plD n (G p.2.1) && (plD n (H p.2.2.1) && (plD n (K p.2.2.2) && true)))) = true
    rw [h.pl, k.pl, l.pl, m.pl]; rfl, fun x y e => by
    injection e with e
    injection e with e1 e
    injection e with e2 e
    injection e with e3 e
    injection e with e4 e
    exact Prod.ext (h.inj _ _ e1) (Prod.ext (k.inj _ _ e2) (Prod.ext (l.inj _ _ e3) (m.inj _ _ e4)))⟩
def Gy (n : Nat) {α : Type} (F : α → D) : Prop := ∀ x, plD n (F x) = true
theorem yNum : Gy 2 eNum := fun x => by
    cases x with
    | inl r => exact (gL gQ).gx.pl r
    | inr c => exact ((gL gI).gx.up (by decide : 1 ≤ 2)).pl c
theorem Gy.up (h : Gy n F) (l : n ≤ m) : Gy m F := fun x => plD_up l (h x)
theorem yT2 (h : Gy n F) (k : Gy n G) : Gy (n + 1) (eT2 F G) := fun p => by
    show (plD n (F p.1) && (plD n (G p.2) && true)) = true
    rw [h, k]; rfl
theorem yT3 (h : Gy n F) (k : Gy n G) (l : Gy n H) : Gy (n + 1) (eT3 F G H) := fun p => by
    show (plD n (F p.1) && (plD n (G p.2.1) && (plD n (H p.2.2) && true))) = true
    rw [h, k, l]; rfl
theorem xLine : Gx 3 eLine := xT4 (n := 2) (gL gQ).gx (gQ.gx.up (by decide)) (gI.gx.up (by decide)) (xSt.up (by decide))
theorem gStand : Gd 4 eStand := gT3 (n := 3) (gI.up (by decide)) (gQ.up (by decide)) (gL (gT2 (n := 1) (gI.up (by decide)) gQ))
theorem yC : Gy 3 eC := yT2 (n := 2) (Gy.up (n := 0) (fun _ => rfl) (by decide)) yNum
theorem yNet : Gy 6 eNet := yT3 (n := 5) (((xL xLine).up (by decide)).pl) (gL gStand).pl (yC.up (by decide))
def OkE (F : α → D) (x : α) : Prop := okD 20 (F x) = true
theorem o_eqx [DecidableEq α] (h : Gx n F) {x y : α} (hx : OkE F x) (hy : OkE F y) (l : n ≤ 20 := by decide) : dEq (F x) (F y) = some (.bl (decide (x = y))) := by
  by_cases q : x = y
  · subst q; rw [dEq_self ⟨hx, plD_up l (h.pl x)⟩]; simp
  · rw [dEq_ne ⟨hx, plD_up l (h.pl x)⟩ ⟨hy, plD_up l (h.pl y)⟩ (fun z => q (h.inj x y z))]; simp [q]
theorem o_eqy [DecidableEq α] (h : Gy n F) {x y : α} (hx : OkE F x) (hy : OkE F y) (hi : F x = F y → x = y) (l : n ≤ 20 := by decide) : dEq (F x) (F y) = some (.bl (decide (x = y))) := by
  by_cases q : x = y
  · subst q; rw [dEq_self ⟨hx, plD_up l (h x)⟩]; simp
  · rw [dEq_ne ⟨hx, plD_up l (h x)⟩ ⟨hy, plD_up l (h y)⟩ (fun z => q (hi z))]; simp [q]
theorem o_ney [DecidableEq α] (h : Gy n F) {x y : α} (hx : OkE F x) (hy : OkE F y) (hi : F x = F y → x = y) (l : n ≤ 20 := by decide) : dNe (F x) (F y) = some (.bl (!decide (x = y))) := dNe_not (o_eqy h hx hy hi l)
end
section
variable {ρ ρ1 ρ2 : Env} {i : Nat} {α : Type} {F : α → D} {xs : List α} {fk fe f2 : M D} {z : Int} {d y : D} {c : Bool} {T : String}
theorem contR_some {s : Option Slot} {d : D} (h : contR s = some d) : ∃ t, s = some t ∧ ∀ ρ : Env, ∀ i : Nat, ρ[i]? = s → chk i ρ = .ok () ρ := by
  cases s with
  | none => cases h
  | some t =>
    refine ⟨t, rfl, fun ρ i q => ?_⟩
    unfold chk
    rw [q]
    cases t with
    | un => cases h
    | fz _ => rfl
    | ow _ => rfl
    | io _ => rfl
    | dp _ _ => cases h
theorem chk_of {d : D} (h : contR ρ[i]? = some d) : chk i ρ = .ok () ρ := by
  obtain ⟨t, e, k⟩ := contR_some h
  exact k ρ i rfl
theorem pk [Inhabited α] (h0 : contR ρ[i]? = some (eL F xs)) (h1 : fk ρ = .ok (.int z) ρ1) (h2 : contR ρ1[i]? = some (eL F xs)) (hb : InB xs.length z) : mPeek i fk ρ = .ok (F (ix xs z)) ρ1 := by
  unfold mPeek M.bind
  rw [chk_of h0]; dsimp only
  rw [h1]; dsimp only
  rw [h2]; dsimp only [Option.bind]
  rw [o_ixLL hb]
theorem lnL (h0 : contR ρ[i]? = some (eL F xs)) : mLenL i ρ = .ok (.int xs.length) ρ := by
  unfold mLenL M.bind
  rw [chk_of h0]; dsimp only
  rw [h0]; dsimp only [Option.bind]
  rw [o_lenL]
theorem any_in [DecidableEq α] (hf : ∀ x, flatD (F x) = true) (he : ∀ x y, eqF (F x) (F y) = decide (x = y)) (x : α) : ∀ xs : List α, (xs.map F).any (fun y => eqF y (F x)) = decide (x ∈ xs)
  | [] => by simp
  | y :: ys => by
    rw [List.map_cons, List.any_cons, any_in hf he x ys, he y x]
    by_cases q : y = x
    · simp [q]
    · simp [q, Ne.symm q]
theorem o_ninI {x : Int} {ys : List Int} : dIn true (.int x) (eL D.int ys) = some (.bl (!decide (x ∈ ys))) := by
  unfold dIn eL
  dsimp only
  rw [if_pos ⟨rfl, by rw [List.all_map, List.all_eq_true]; exact fun _ _ => rfl⟩, any_in (fun _ => rfl) (fun a b => by show (a == b) = _; rw [Bool.beq_eq_decide_eq])]
  rfl
theorem o_inSV {x : Str} {ys : List Str} : dIn false (.str x) (eV D.str ys) = some (.bl (decide (x ∈ ys))) := by
  unfold dIn eV
  dsimp only
  rw [if_pos ⟨rfl, by rw [List.all_map, List.all_eq_true]; exact fun _ _ => rfl⟩, any_in (fun _ => rfl) (fun a b => by show (a == b) = _; rw [Bool.beq_eq_decide_eq])]
  rfl
theorem o_int {k : Bool} : dInt [.bl k] = some (.int (b2i k)) := rfl
theorem o_lenNum {x : Num} : dLen [eNum x] = some (.int (numLen x : Int)) := by
  cases x with
  | inl r => exact o_lenL
  | inr c => exact o_lenL
theorem lofNum {fs : M (List D)} {x : Num} (h : fs ρ = .ok [eNum x] ρ1) : mListOf fs ρ = .ok (eNum x, .tt) ρ1 := by
  cases x with
  | inl r => exact lofL h
  | inr c => exact lofL h
theorem cNumQ {f : M D} {x : Num} (h : f ρ = .ok (eNum x) ρ1) (k : x.isLeft = true) : f ρ = .ok (eL fq (numQ x)) ρ1 := by
  cases x with
  | inl r => exact h
  | inr c => cases k
theorem cNumI {f : M D} {x : Num} (h : f ρ = .ok (eNum x) ρ1) (k : x.isRight = true) : f ρ = .ok (eL D.int (numI x)) ρ1 := by
  cases x with
  | inr r => exact h
  | inl c => cases k
theorem bdh {P Q : Prop} (h : P) (k : P → Q) : Q := k h
theorem sAss {β : Type} {J : Rs Fl → β → Prop} {a b k : M Fl} {x : β} (h : J (mSeq a (mSeq b k) ρ) x) : J (mSeq (mSeq a b) k ρ) x := by
  have e : mSeq (mSeq a b) k ρ = mSeq a (mSeq b k) ρ := by
    unfold mSeq M.bind
    cases a ρ with
    | ok fl ρ' => cases fl <;> rfl
    | rz c ρ' => rfl
    | fail => rfl
  rw [e]; exact h
theorem jnE {σ : Type} {ctx : σ → Env} {r : Rs Fl} {s : σ} (h : JN ctx r s) : r = .ok .nx (ctx s) := h
end
end Dt
namespace Dt
open PySem PySem.Spec PyProof.Rows L2
section
variable {K : PySem.W.Frag} {B H : Hp}
theorem Its.get {R : V → D → List Addr → Prop} {vs : List V} {ds : List D} {S : List Addr} (h : Its R vs ds S) : ∀ {k : Nat} {d : D}, ds[k]? = some d → ∃ v T, vs[k]? = some v ∧ R v d T ∧ T.Sublist S := by
  induction h with
  | nil => intro k d e; simp at e
  | cons r t ih =>
    intro k d e
    cases k with
    | zero => simp at e; subst e; exact ⟨_, _, rfl, r, List.sublist_append_left _ _⟩
    | succ k =>
      obtain ⟨v, T, h1, h2, h3⟩ := ih (k := k) (d := d) (by simpa using e)
      exact ⟨v, T, by simpa using h1, h2, h3.trans (List.sublist_append_right _ _)⟩
theorem TrT.len : ∀ {ms : Mks} {vs : List V} {ds : List D} {S : List Addr}, TrT K B H ms vs ds S → vs.length = ds.length
  | .nil, _, _, _, h => by
    unfold TrT at h
    obtain ⟨rfl, rfl, _⟩ := h; rfl
  | .cons m r, _, _, _, h => by
    unfold TrT at h
    obtain ⟨v, vs, d, ds, S1, S2, rfl, rfl, t1, t2, rfl⟩ := h
    rw [List.length_cons, List.length_cons, TrT.len (ms := r) t2]
theorem nodup_app {S T S' T' : List Addr} {N : Addr → Prop} (nd : (S ++ T).Nodup) (n : ∀ a ∈ S ++ T, ¬ N a) (h1 : S'.Nodup) (h2 : T'.Nodup) (k1 : ∀ a ∈ S', a ∈ S ∨ N a) (k2 : ∀ a ∈ T', a ∈ T ∨ N a) (one : (∀ a ∈ S', a ∈ S) ∨ ∀ a ∈ T', a ∈ T) : (S' ++ T').Nodup := by
  obtain ⟨_, _, dj⟩ := List.nodup_append.mp nd
  refine List.nodup_append.mpr ⟨h1, h2, fun a ha b hb z => ?_⟩
  subst z
  rcases one with o | o
  · rcases k2 a hb with q | q
    · exact dj a (o a ha) a q rfl
    · exact n a (List.mem_append_left _ (o a ha)) q
  · rcases k1 a ha with q | q
    · exact dj a q a (o a hb) rfl
    · exact n a (List.mem_append_right _ (o a hb)) q
theorem Its.upd {R R' : V → D → List Addr → Prop} {N : Addr → Prop} {a' : Addr} {v1 : V} {d1 d2 : D} {vs : List V} {ds : List D} {S : List Addr} (h : Its R vs ds S) : ∀ {k : Nat}, S.Nodup → (∀ a ∈ S, ¬ N a) → ds[k]? = some d1 → vs[k]? = some v1 → (∀ v d T, R v d T → a' ∉ T → R' v d T) →
    (∀ T, R v1 d1 T → T.Nodup → (∀ a ∈ T, a ∈ S) → a' ∈ T ∧ ∃ T', R' v1 d2 T' ∧ T'.Nodup ∧ ∀ a ∈ T', a ∈ T ∨ N a) → a' ∈ S ∧ ∃ S', Its R' vs (ds.set k d2) S' ∧ S'.Nodup ∧ ∀ a ∈ S', a ∈ S ∨ N a := by
  induction h with
  | nil => intro k nd n e; simp at e
  | @cons v vs d ds S T r t ih =>
    intro k nd n e g kp st
    obtain ⟨n1, n2, dj⟩ := List.nodup_append.mp nd
    cases k with
    | zero =>
      simp at e g; subst e; subst g
      obtain ⟨m1, T', h1, h2, h3⟩ := st S r n1 fun a h => List.mem_append_left _ h
      refine ⟨List.mem_append_left _ m1, T' ++ T, .cons h1 (t.imp fun v d U q s => kp v d U q fun z => dj a' m1 a' (s a' z) rfl), nodup_app nd n h2 n2 h3 (fun a h => .inl h) (.inr fun a h => h), fun a h => ?_⟩
      rcases List.mem_append.mp h with h | h
      · exact (h3 a h).imp (List.mem_append_left _) id
      · exact .inl (List.mem_append_right _ h)
    | succ k =>
      obtain ⟨m1, S', h1, h2, h3⟩ := ih (k := k) n2 (fun a h => n a (List.mem_append_right _ h)) (by simpa using e) (by simpa using g) kp (fun U q nu s => st U q nu fun a h => List.mem_append_right _ (s a h))
      refine ⟨List.mem_append_right _ m1, S ++ S', .cons (kp v d S r fun z => dj a' z a' m1 rfl) h1, nodup_app nd n n1 h2 (fun a h => .inl h) h3 (.inl fun a h => h), fun a h => ?_⟩
      rcases List.mem_append.mp h with h | h
      · exact .inl (List.mem_append_left _ h)
      · exact (h3 a h).imp (List.mem_append_right _) id
end
section
variable {X : Cx} {W : WX} {F : Fr} {ρ ρ1 : Env} {σ : St} {B H B1 H1 : Hp} {i : Nat} {m : Mk} {d : D} {v : V} {S : List Addr} {K : PySem.W.Frag}
end
section
variable {X : Cx} {W : WX} {e o kx : Expr} {pos : Pos} {i : Nat}
section
variable {K : PySem.W.Frag} {F : Fr} {ρ ρ1 : Env} {σ : St} {B H B1 H1 : Hp} {m m' : Mk} {d : D} {v : V} {S : List Addr}
end
end
end Dt
namespace Dt
open PySem PySem.Spec PyProof.Rows L2
section
variable {X : Cx} {W : WX} {e o kx : Expr} {es : List Expr} {pos : Pos} {i : Nat} {x : Str} {px : Pos} {K : PySem.W.Frag}
end
section
variable {ρ ρ1 ρ2 ρ3 : Env} {i n : Nat} {α : Type} {F : α → D} {xs : List α} {v v2 : α} {z z2 : Int} {fk fk2 : M D} {d : D}
theorem setI_len {xs : List α} {z : Int} {v : α} : (setI xs z v).length = xs.length := by unfold setI; rw [List.length_set]
end
section
variable {K : PySem.W.Frag} {B H : Hp}
theorem its_z : ∀ {vs : List V} {ds : List D} {U : List Addr}, Its (Tr K B H .z) vs ds U → Fzs K B vs ds ∧ U = [] := by
  intro vs ds U h
  induction h with
  | nil => exact ⟨.nil, rfl⟩
  | cons r t ih =>
    unfold Tr at r
    obtain ⟨f, rfl⟩ := r
    obtain ⟨fs, rfl⟩ := ih
    exact ⟨.cons f fs, rfl⟩
theorem z_its {H' : Hp} : ∀ {vs : List V} {ds : List D}, Fzs K B vs ds → Its (Tr K B H' .z) vs ds []
  | _, _, .nil => .nil
  | _, _, .cons f fs => by
    have := Its.cons (R := Tr K B H' .z) (S := []) (T := []) (by unfold Tr; exact ⟨f, rfl⟩) (z_its fs)
    simpa using this
end
section
variable {X : Cx} {W : WX} {e o kx : Expr} {pos : Pos} {i : Nat}
end
end Dt
namespace Dt
open PySem PySem.Spec PyProof.Rows L2
section
variable {ρ ρ0 ρ1 ρ2 ρ3 ρ4 ρ9 : Env} {i : Nat} {α β : Type} {F : α → D} {G : β → D} {xs : List (List α)} {v : α} {z z1 z2 : Int} {fk fk1 fk2 fe : M D} {m : Mk}
end
section
variable {α β : Type} {F : α → D} {G : β → D} {f : M (List D)} {g : D → Env → Option Env} {t : M Bool} {e : M (D × Ob)} {own : List Nat} {ρ ρ0 ρ1 ρ9 : Env} {m : Mk} {o : Ob}
theorem lcG_pure {φ : α → β} (hm : ∀ y, obMk o (G y) = some m) : ∀ (xs : List α) (acc : List D), (∀ x ∈ xs, ∃ ρx, g (F x) ρ1 = some ρx ∧ wipeE ρx own = ρ1 ∧ ∃ ρz, e ρx = .ok (G (φ x), o) ρz ∧ wipeE ρz own = ρ1) → acc.length + xs.length ≤ 10000 →
    mLcG own g (M.pure true) e m (xs.map F) acc ρ1 = .ok (acc ++ (xs.map φ).map G) ρ1
  | [], acc, _, _ => by simp [mLcG, M.pure]
  | x :: xs, acc, h, hl => by
    obtain ⟨ρx, h1, h2, ρz, h3, h4⟩ := h x (by simp)
    rw [List.length_cons] at hl
    have ih := fun acc' hl' => lcG_pure (φ := φ) hm xs acc' (fun y hy => h y (List.mem_cons_of_mem _ hy)) hl'
    rw [List.map_cons]
    unfold mLcG
    rw [h1]
    dsimp only
    unfold M.bind mNoR M.pure
    dsimp only
    rw [h3]
    dsimp only
    rw [if_pos ⟨by omega, hm _⟩, h4]
    have := ih (acc ++ [G (φ x)]) (by rw [List.length_append, List.length_singleton]; omega)
    unfold M.pure at this
    rw [this]
    simp
theorem lcD {φ : α → β} {xs : List α} (hm : ∀ y, obMk o (G y) = some m) (hf : f ρ = .ok (xs.map F) ρ0) (hρ : wipeE ρ0 own = ρ1) (hb : ∀ x ∈ xs, ∃ ρx, g (F x) ρ1 = some ρx ∧ wipeE ρx own = ρ1 ∧ ∃ ρz, e ρx = .ok (G (φ x), o) ρz ∧ wipeE ρz own = ρ1) (hl : xs.length ≤ 10000) (h9 : wipeE ρ1 own = ρ9) :
    mLcD own m f g (M.pure true) e ρ = .ok (eL G (xs.map φ), .dp (.l m)) ρ9 := by
  unfold mLcD M.bind
  rw [hf]
  dsimp only
  rw [hρ, lcG_pure (φ := φ) hm xs [] hb (by simpa using hl)]
  dsimp only
  rw [h9]; rfl
theorem sSetD {fo : M (D × Ob)} {d : D} {i : Nat} {ρ2 : Env} (h : fo ρ = .ok (d, .dp m) ρ1) (h2 : ρ1.set i (.dp m d) = ρ2) : mSet i fo ρ = .ok .nx ρ2 := by
  unfold mSet M.bind; rw [h]; show mPut i (d, .dp m) ρ1 = _; unfold mPut Slot.of; dsimp only; rw [h2]
end
abbrev NE := Rat ⊕ Int
instance : Inhabited NE := ⟨.inr 0⟩
end Dt
namespace Dt
open PySem PySem.Spec PyProof.Rows L2
section
variable {X : Cx} {W : WX} {e : Expr} {pos : Pos} {i : Nat} {x : Str} {px : Pos}
end
end Dt
namespace Dt
open PySem PySem.Spec PyProof.Rows L2
end Dt
namespace Dt
open PySem PySem.Spec PyProof.Rows L2
instance iLine : DecidableEq Line := inferInstance
instance iStand : DecidableEq Stand := inferInstance
instance iComD : DecidableEq Com := inferInstance
instance iSCD : DecidableEq (List Stand × Com) := @instDecidableEqProd _ _ inferInstance inferInstance
instance iNetD : DecidableEq Net := @instDecidableEqProd (List Line) (List Stand × Com) inferInstance iSCD
end Dt
namespace Dt
open PySem PySem.Spec PyProof.Rows L2
end Dt
namespace Dt
open PySem PySem.Spec PyProof.Rows L2
section
variable {K : PySem.W.Frag} {F : Fr} {ρ : Env} {σ : St} {B H : Hp}
end
end Dt
namespace Dt
open PySem PySem.Spec PyProof.Rows L2
mutual

def D.noL : D → Bool
  | .tup xs => D.noLs xs
  | .lst _ => false
  | .dic _ _ => false
  | .dct _ _ => false
  | .ins _ _ _ => false
  | .scr _ => false
  | .non | .bl _ | .int _ | .str _ | .obj _ | .key _ => true
def D.noLs : List D → Bool
  | [] => true
  | x :: xs => D.noL x && D.noLs xs
end
def HO.isC : HO → Prop
  | .lst _ => True
  | .dK _ => True
  | .dT _ => True
  | .ins _ _ _ => True
  | _ => False
section
variable {K : PySem.W.Frag} {B : Hp} {a : Addr} {o : HO}
end
section
variable {X : Cx} {W : WX} {e : Expr} {i : Nat}
end
end Dt
namespace Dt
end Dt
namespace Dt.Hk
open PySem PySem.Spec PyProof.Rows L2 Dt
open PySem.W (nsIn fnOf codeIn keepIn)
theorem eqB_ok {a : Option Bool} {b : Bool} (h : eqB a (some b) = true) : a = some b := by
  cases a with
  | none => cases h
  | some x =>
    have e : x = b := eq_of_beq h
    rw [e]
theorem isTy_ok {o : Option Value} {x : String} (h : isTy o x = true) : o = some (.type x) := by
  cases o with
  | none => cases h
  | some v =>
    cases v with
    | type y =>
      have e : y = x := eq_of_beq h
      rw [e]
    | _ => cases h
def litD : Int ⊕ Str → D
  | .inl i => .int i
  | .inr s => .str s
theorem litsB_ok : ∀ {xs : List (Int ⊕ Str)} {us : List Value}, litsB xs us = true → Flats us (xs.map litD)
  | [], [], _ => .nil
  | [], _ :: _, h => by cases h
  | _ :: _, [], h => by cases h
  | .inl i :: xs, u :: us, h => by
    obtain ⟨h1, h2⟩ := He.ba (show (litB (.inl i) u && litsB xs us) = true from h)
    cases u with
    | int j t =>
      have e : j = i := of_decide_eq_true h1
      rw [← e]
      exact .int (litsB_ok h2)
    | _ => cases h1
  | .inr s :: xs, u :: us, h => by
    obtain ⟨h1, h2⟩ := He.ba (show (litB (.inr s) u && litsB xs us) = true from h)
    cases u with
    | str j t =>
      have e : j = s := of_decide_eq_true h1
      rw [← e]
      exact .str (litsB_ok h2)
    | _ => cases h1
theorem encV_of {v : Value} {x : Str} (h : v.isStr x = true) : encV v = enc x := by
  cases v with
  | str s t =>
    have e : s = x := by
      have h1 : (s == x) = true := h
      exact eq_of_beq h1
    rw [e]; rfl
  | _ => cases h
theorem tblK_eq {α : Type} : ∀ (es : List DictEntry) (k : List (Nat × DictEntry) → α), tblK es k = k (tbl es)
  | [], k => rfl
  | e :: r, k => by
    unfold tblK
    rw [HandSHeadRun.frNat_eq, tblK_eq r]
    rfl
theorem lkT_some {x : Str} {e : DictEntry} (hx : e.key.isStr x = true) : ∀ es : List DictEntry, lkT (enc x) (tbl es) = some e → es.find? (·.key.isStr x) = some e ∧ e ∈ es
  | [], h => by cases h
  | a :: r, h => by
    have h1 : (match Nat.beq (encV a.key) (enc x) with
      | true => some a
      | false => lkT (enc x) (tbl r)) = some e := h
    cases q : Nat.beq (encV a.key) (enc x) with
    | true =>
      rw [q] at h1
      have ea : a = e := Option.some.inj h1
      subst ea
      exact ⟨by rw [List.find?_cons, hx], List.mem_cons_self⟩
    | false =>
      rw [q] at h1
      obtain ⟨h2, h3⟩ := lkT_some hx r h1
      have n : a.key.isStr x = false := by
        cases z : a.key.isStr x with
        | false => rfl
        | true =>
          rw [encV_of z] at q
          have : Nat.beq (enc x) (enc x) = true := Nat.beq_refl _
          rw [this] at q
          cases q
      exact ⟨by rw [List.find?_cons, n]; exact h2, List.mem_cons_of_mem _ h3⟩
theorem lkT_none {x : Str} : ∀ es : List DictEntry, lkT (enc x) (tbl es) = none → es.find? (·.key.isStr x) = none
  | [], _ => rfl
  | a :: r, h => by
    have h1 : (match Nat.beq (encV a.key) (enc x) with
      | true => some a
      | false => lkT (enc x) (tbl r)) = none := h
    cases q : Nat.beq (encV a.key) (enc x) with
    | true => rw [q] at h1; cases h1
    | false =>
      rw [q] at h1
      have n : a.key.isStr x = false := by
        cases z : a.key.isStr x with
        | false => rfl
        | true =>
          rw [encV_of z] at q
          have : Nat.beq (enc x) (enc x) = true := Nat.beq_refl _
          rw [this] at q
          cases q
      rw [List.find?_cons, n]
      exact lkT_none r h1
theorem frG_mem {g : Addr → Option Obj} {a : Addr} : ∀ as : List Addr, a ∈ as → (He.frG g as).lookup a = g a
  | [], h => by cases h
  | b :: r, h => by
    unfold He.frG
    rw [List.filterMap_cons]
    cases hb : g b with
    | none =>
      rcases List.mem_cons.mp h with rfl | hr
      · rw [hb]
        show (He.frG g r).lookup a = none
        cases q : (He.frG g r).lookup a with
        | none => rfl
        | some o => rw [He.frG_at r q] at hb; cases hb
      · exact frG_mem r hr
    | some o =>
      show List.lookup a ((b, o) :: He.frG g r) = g a
      rw [List.lookup_cons]
      cases q : a == b with
      | true =>
        have e : a = b := eq_of_beq q
        rw [e, hb]
      | false =>
        rcases List.mem_cons.mp h with rfl | hr
        · rw [beq_self_eq_true] at q; cases q
        · exact frG_mem r hr
theorem asK_main {g : Addr → Option Obj} : mainGlobals ∈ asK g := List.mem_append_left _ List.mem_cons_self
theorem asK_r1 {g : Addr → Option Obj} {e : DictEntry} {f : Addr} (he : e ∈ glE g) (hv : e.val = .ref f) : f ∈ r1 (glE g) := List.mem_flatMap.mpr ⟨e, he, by rw [hv]; exact List.mem_singleton.mpr rfl⟩
theorem asK_1 {g : Addr → Option Obj} {f : Addr} (h : f ∈ r1 (glE g)) : f ∈ asK g := List.mem_append_right _ (List.mem_append_left _ h)
theorem asK_2 {g : Addr → Option Obj} {f c : Addr} {o : Obj} (h : f ∈ r1 (glE g)) (ho : g f = some o) (hc : c ∈ He.refsO o) : c ∈ asK g := List.mem_append_right _ (List.mem_append_right _ (List.mem_flatMap.mpr ⟨f, h, by rw [ho]; exact hc⟩))
theorem glE_at {g : Addr → Option Obj} {e : DictEntry} (h : e ∈ glE g) : ∃ c d es n sl, g mainGlobals = some ⟨c, d, .dict es n, sl⟩ ∧ glE g = es.toList := by
  have k : glE g = glE g := rfl
  unfold glE at h k
  cases q : g mainGlobals with
  | none => rw [q] at h; cases h
  | some o =>
    obtain ⟨c, d, dt, sl⟩ := o
    rw [q] at h
    cases dt with
    | dict es n => exact ⟨c, d, es, n, sl, rfl, by unfold glE; rw [q]⟩
    | _ => cases h
def FnK (K : PySem.W.Frag) (q : Str × Str × Stmt) : Prop := ∃ f fd, nsIn K mainGlobals q.1 = some (some (.ref f)) ∧ Fun K q.2.1 q.2.1 q.2.2 f fd
theorem fnK_of {g : Addr → Option Obj} {q : Str × Str × Stmt} (hb : fnB g (tbl (glE g)) q = true) (ho : fnO g (tbl (glE g)) q = fnV q) : FnK (KG g) q := by
  unfold fnB at hb
  unfold fnO at ho
  rw [HandSHeadRun.frNat_eq] at hb ho
  cases e1 : lkT (enc q.1) (tbl (glE g)) with
  | none => rw [e1] at hb; cases hb
  | some e =>
    rw [e1] at hb ho
    obtain ⟨hk, hb⟩ := He.ba hb
    obtain ⟨hf, hm⟩ := lkT_some hk _ e1
    obtain ⟨c0, d0, es, n0, sl0, hg, hes⟩ := glE_at hm
    cases e2 : e.val with
    | ref f =>
      rw [e2] at hb
      simp only [e2] at ho
      replace hb : (match g f with
        | some ⟨_, _, .func fd, _⟩ => codeG g fd.code q.2.1
        | _ => false) = true := hb
      have m1 : f ∈ r1 (glE g) := asK_r1 hm e2
      have hns : nsIn (KG g) mainGlobals q.1 = some (some (.ref f)) := by
        unfold nsIn
        rw [frG_mem _ asK_main, hg]
        rw [hes] at hf
        simp only [hf, e2]
      cases e3 : g f with
      | none => rw [e3] at hb; cases hb
      | some o =>
        obtain ⟨oc, od, dt, osl⟩ := o
        rw [e3] at hb ho
        cases dt with
        | func fd =>
          obtain ⟨m1_, m2_, m3_, m4_, m5_, m6_, m7_, m8_, m9_, m10_, m11_, m12_, m13_, m14_, m15_⟩ := fd
          have e4 : (some (m1_, m2_, m3_, m4_, m5_, m6_, m7_, m8_, m15_) : FnO) = some (q.2.1, q.2.1, defArgs q.2.2, .stmts (defBody q.2.2), defScope q.2.2, mainGlobals, [], .none, builtinsNs) := ho
          simp only [Option.some.injEq, Prod.mk.injEq] at e4
          obtain ⟨h1, h2, h3, h4, h5, h6, h7, h8, h9⟩ := e4
          have hb' : codeG g m13_ q.2.1 = true := hb
          have lk : (KG g).lookup f = g f := frG_mem _ (asK_1 m1)
          cases m13_ with
          | ref c =>
            have m2 : c ∈ asK g := asK_2 m1 e3 (by
              unfold He.refsO
              refine List.mem_append_right _ (List.mem_append_left _ ?_)
              exact List.mem_singleton.mpr rfl)
            have hc : codeIn (KG g) (.ref c) q.2.1 = true := by
              have lc : (KG g).lookup c = g c := frG_mem _ m2
              unfold codeIn
              simp only [lc]
              exact hb'
            have kp : keepIn (KG g) (.ref f) = true := by
              unfold keepIn
              simp only [lk, e3]
            subst h1 h3 h4 h5 h6 h7 h8 h9
            refine ⟨f, _, hns, fun_mk (kV := m9_) (doc := m10_) (pm := m11_) (an := m12_) (cdv := .ref c) (ct := m14_) (oc := oc) (od := od) (osl := osl) ?_ hc kp⟩
            rw [lk, e3, ← h2]
          | _ => cases hb'
        | _ => cases hb
    | _ => rw [e2] at hb; cases hb
theorem frB_ok {g : Addr → Option Obj} {x : Str} (hn : (glE g).isEmpty = false) (hr : ((glE g).any (·.refKey)) = false) (h : frB (tbl (glE g)) x = true) : nsIn (KG g) mainGlobals x = some none := by
  unfold frB at h
  rw [HandSHeadRun.frNat_eq] at h
  cases e1 : lkT (enc x) (tbl (glE g)) with
  | some e => rw [e1] at h; cases h
  | none =>
    have hf := lkT_none _ e1
    cases q : glE g with
    | nil => rw [q] at hn; cases hn
    | cons e r =>
      obtain ⟨c0, d0, es, n0, sl0, hg, hes⟩ := glE_at (g := g) (e := e) (by rw [q]; exact List.mem_cons_self)
      unfold nsIn
      rw [frG_mem _ asK_main, hg]
      rw [hes] at hf hr
      simp only [hf, hr]
      rfl
structure Says (Q : Qs) (K : PySem.W.Frag) : Prop where
  fn : ∀ q ∈ Q.fns, FnK K q
  fr : ∀ x ∈ Q.frees, nsIn K mainGlobals x = some none
  ck : Q.ckK K = true
theorem says_of {Q : Qs} {g : Addr → Option Obj} (h : Q.obsG g = Q.val) : Says Q (KG g) := by
  unfold Qs.obsG at h
  rw [tblK_eq] at h
  have h1 : (!(glE g).isEmpty && (!((glE g).any (·.refKey)) && Q.ckK (KG g))) = true := congrArg (fun z : QO => z.1) h
  have h2 : Q.ckT g (tbl (glE g)) = true := congrArg (fun z : QO => z.2.1) h
  have h3 : Q.fns.map (fnO g (tbl (glE g))) = Q.fns.map fnV := congrArg (fun z : QO => z.2.2) h
  obtain ⟨a1, h1⟩ := He.ba h1
  obtain ⟨a2, a3⟩ := He.ba h1
  obtain ⟨b1, b2⟩ := He.ba h2
  refine ⟨fun q hq => fnK_of (List.all_eq_true.mp b1 q hq) (List.map_inj_left.mp h3 q hq), fun x hx => frB_ok (by simpa using a1) (by simpa using a2) (List.all_eq_true.mp b2 x hx), a3⟩
def Qs.hook (Q : Qs) : PySem.W.Hook where
  α := QO
  obs := fun s => Q.obsG s.heap.get?
  val := fun _ => Q.val
  says := fun _ h => ∃ K : PySem.W.Frag, K.In h ∧ Says Q K
  of := fun _ _ e => ⟨_, He.frG_in, says_of e⟩
  keeps := fun _ _ _ ⟨K, hIn, q⟩ kp => ⟨K, PySem.W.Frag.In.keeps hIn kp, q⟩
theorem Qs.obsG_eq {Q : Qs} {g : Addr → Option Obj} {s : Shared} (h : ∀ a, g a = s.heap.get? a) : Q.obsG g = Q.hook.obs s := by
  have eg : g = s.heap.get? := funext fun a => h a
  rw [eg] <;> rfl
section
variable {Q : Qs} {K : PySem.W.Frag} {h : Heap} {mg : Str → Option Value}
theorem nsRef {x : Str} {P : Addr → Bool} (c : (match nsIn K mainGlobals x with
  | some (some (.ref C)) => P C
  | _ => false) = true) : ∃ C, nsIn K mainGlobals x = some (some (.ref C)) ∧ P C = true := by
  cases e : nsIn K mainGlobals x with
  | none => rw [e] at c; cases c
  | some o =>
    rw [e] at c
    cases o with
    | none => cases c
    | some v =>
      cases v with
      | ref C => exact ⟨C, rfl, c⟩
      | _ => cases c
theorem Qs.fn' (X : K.In h) (G : h.Ns mainGlobals mg) (c : Says Q K) (i : Nat) {y x : Str} {st : Stmt} (hi : Q.fns[i]? = some (y, x, st) := by rfl) : ∃ f fd, Fun K x x st f fd ∧ mg y = some (.ref f) := by
  obtain ⟨f, fd, e, F⟩ := c.fn _ (List.mem_of_getElem? hi)
  exact ⟨f, fd, F, PySem.W.mg_of X G e⟩
theorem Qs.fn (X : K.In h) (G : h.Ns mainGlobals mg) (c : Says Q K) (i : Nat) {x : Str} {st : Stmt} (hi : Q.fns[i]? = some (x, x, st) := by rfl) : FnIn K mg x st := Qs.fn' X G c i hi
theorem Qs.free (X : K.In h) (G : h.Ns mainGlobals mg) (c : Says Q K) (i : Nat) {x : Str} (hi : Q.frees[i]? = some x := by rfl) : mg x = none :=
  PySem.W.mg_none_of X G (c.fr _ (List.mem_of_getElem? hi))
theorem Qs.exc (X : K.In h) (G : h.Ns mainGlobals mg) (c : Says Q K) (i : Nat) {x : Str} (hi : Q.excs[i]? = some x := by rfl) : ExC K mg x := by
  have c1 : excB K x = true := List.all_eq_true.mp (He.ba c.ck).1 _ (List.mem_of_getElem? hi)
  obtain ⟨C, e, c2⟩ := nsRef (P := fun C => PySem.W.excIn K C veTail "ValueError.__new__" && (keepIn K (.ref C) && (eqB (PySem.W.subIn K (.ref C) (.type "BaseException")) (some true) && isTy (PySem.W.typeIn K (.ref C)) "type"))) c1
  obtain ⟨d1, c2⟩ := He.ba c2
  obtain ⟨d2, c2⟩ := He.ba c2
  obtain ⟨d3, d4⟩ := He.ba c2
  exact ⟨C, PySem.W.mg_of X G e, d1, d2, eqB_ok d3, isTy_ok d4⟩
theorem Qs.int (X : K.In h) (G : h.Ns mainGlobals mg) (c : Says Q K) (i : Nat) {x : Str} {n : Int} (hi : Q.cints[i]? = some (x, n) := by rfl) : CnIn K mg x (.int n) := by
  have c1 : intB K (x, n) = true := List.all_eq_true.mp (He.ba (He.ba (He.ba (He.ba (He.ba c.ck).2).2).2).2).1 _ (List.mem_of_getElem? hi)
  unfold intB at c1
  cases e : nsIn K mainGlobals x with
  | none => rw [e] at c1; cases c1
  | some o =>
    rw [e] at c1
    cases o with
    | none => cases c1
    | some v =>
      cases v with
      | int j t =>
        have ej : j = n := of_decide_eq_true c1
        rw [ej] at e
        exact cn_int (PySem.W.mg_of X G e)
      | _ => cases c1
theorem Qs.str (X : K.In h) (G : h.Ns mainGlobals mg) (c : Says Q K) (i : Nat) {x z : Str} (hi : Q.cstrs[i]? = some (x, z) := by rfl) : CnIn K mg x (.str z) := by
  have c1 : strB K (x, z) = true := List.all_eq_true.mp (He.ba (He.ba (He.ba (He.ba (He.ba (He.ba c.ck).2).2).2).2).2).1 _ (List.mem_of_getElem? hi)
  unfold strB at c1
  cases e : nsIn K mainGlobals x with
  | none => rw [e] at c1; cases c1
  | some o =>
    rw [e] at c1
    cases o with
    | none => cases c1
    | some v =>
      cases v with
      | str j t =>
        have ej : j = z := of_decide_eq_true c1
        rw [ej] at e
        exact cn_str (PySem.W.mg_of X G e)
      | _ => cases c1
theorem Qs.tup (X : K.In h) (G : h.Ns mainGlobals mg) (c : Says Q K) (i : Nat) {x : Str} {ls : List (Int ⊕ Str)} (hi : Q.ctups[i]? = some (x, ls) := by rfl) : CnIn K mg x (.tup (ls.map litD)) := by
  have c1 : tupB K (x, ls) = true := List.all_eq_true.mp (He.ba (He.ba (He.ba (He.ba (He.ba (He.ba c.ck).2).2).2).2).2).2 _ (List.mem_of_getElem? hi)
  unfold tupB at c1
  obtain ⟨p, e, c2⟩ := nsRef c1
  cases q : K.lookup p with
  | none => rw [q] at c2; cases c2
  | some o =>
    obtain ⟨oc, od, dt, osl⟩ := o
    rw [q] at c2
    cases oc with
    | type cc =>
      cases dt with
      | seq its n =>
        obtain ⟨d1, c3⟩ := He.ba (show ((cc == "tuple") && (Nat.ble its.size 1000 && litsB ls its.toList)) = true from c2)
        obtain ⟨d2, d3⟩ := He.ba c3
        have ec : cc = "tuple" := eq_of_beq d1
        subst ec
        have hq : K.lookup p = some ⟨.type "tuple", od, .seq its.toList.toArray n, osl⟩ := by rw [q]
        exact cn_tup (PySem.W.mg_of X G e) hq (by rw [Array.length_toList]; exact Nat.le_of_ble_eq_true d2) (litsB_ok d3)
      | _ => cases c2
    | _ => cases dt <;> cases c2
end
theorem walk_h {l : PySem.W.OpenLaw} {n k : Nat} {q : Program} {loose : List Str} {XP : (Str → Option Value) → Heap → Prop} {d : DefRec} {Q : Qs} {x : Str} (hn : l.most = some n) (himp : importsNone q = true) (tree : l.prog.given.tree = none) (few : n ≤ sizeLine) (nodef : d.params.defaults = []) (room : Room k callerA)
    (F : ∀ (w : World) (K : PySem.W.Frag) (mg : Str → Option Value) (fa : Addr) (h : Heap), Says Q K → K.In h → h.Ns mainGlobals mg → mg d.name = some (.ref fa) → ∃ fd : FuncData, (∀ (s : Shared) (u : Value), BindsTo s fd ⟨[u], []⟩ [(x, u)]) ∧ ∀ b : Heap, K.In b → b.Ns mainGlobals mg → FnG l.prog w K mg b k fa fd [x] (spL K n)) :
    PySem.W.WalkO q loose XP Q.hook.says l.row.toRowW d [] (fun f vs => PySem.call f vs) := by
  refine Att.attach_callB hn nodef ?_
  intro w _ s1 mg _ fa _ _ _ _ a _ ns G Y _ _ _ hmg scr inz hl bits gens
  obtain ⟨K, hK, c⟩ := Y
  obtain ⟨fd, bnd, go⟩ := F w K mg fa _ c hK G.T.g hmg
  exact top_call hK G.T.g G.T.b G.T.builtins G.T.nolimit (G.T.seer himp) tree gens scr inz (Nat.le_trans hl few) room go bnd (fun H hS => ⟨a, ns, rfl, hS, hl, bits, fun _ => rfl⟩)
end Dt.Hk
namespace K03
namespace Hd
open PySem PySem.W PySem.Calls PyProof.Rows HandSHeadRun Dt.Pc Dt.Hk
theorem ob_eq (s : PySem.W.SharedT) : ob s = qs.hook.obs s.abs := Qs.obsG_eq (HandSHeadRun.getT_eq s)
end Hd
end K03
namespace Std
open PySem PySem.Spec PyProof.Rows L2 Dt
noncomputable def fb_common : M Fl :=
  mSeq (mWh (mTest (mBin dNe (mVar 1) (M.pure (.int 0)))) (mPar 0 1 (mCons (mVar 1) (mCons (mBin dMod (mVar 0) (mVar 1)) (mNil)))))
    (mRet (mMove 0))
noncomputable def fn_common : List D → Rf := runF none 2 fb_common
noncomputable def fb_fraction : M Fl :=
  mSeq (mIf (mTest (mBin dEq (mVar 1) (M.pure (.int 0)))) (M.raise "NoFraction") (mNx))
    (mSeq (mSet 2 (mCallN 2 none fn_common (xV (mCall dAbs (mCons (mVar 0) (mNil))) (xV (mCall dAbs (mCons (mVar 1) (mNil))) (xNil)))))
    (mSeq (mIf (mTest (mBin dLt (mVar 1) (M.pure (.int 0)))) (mSet 2 (mOf (mBin dSub (M.pure (.int 0)) (mVar 2)))) (mNx))
    (mRet (mOf (mTup (mCons (mBin dDiv (mVar 0) (mVar 2)) (mCons (mBin dDiv (mVar 1) (mVar 2)) (mNil))))))))
noncomputable def fn_fraction : List D → Rf := runF none 3 fb_fraction
noncomputable def fb_plus : M Fl :=
  mRet (mCallN 2 none fn_fraction (xV (mBin dAdd (mBin dMul (mBin dIx (mVar 0) (M.pure (.int 0))) (mBin dIx (mVar 1) (M.pure (.int 1)))) (mBin dMul (mBin dIx (mVar 1) (M.pure (.int 0))) (mBin dIx (mVar 0) (M.pure (.int 1))))) (xV (mBin dMul (mBin dIx (mVar 0) (M.pure (.int 1))) (mBin dIx (mVar 1) (M.pure (.int 1)))) (xNil))))
noncomputable def fn_plus : List D → Rf := runF none 2 fb_plus
noncomputable def fb_is_less : M Fl :=
  mRet (mOf (mBin dLt (mBin dMul (mBin dIx (mVar 0) (M.pure (.int 0))) (mBin dIx (mVar 1) (M.pure (.int 1)))) (mBin dMul (mBin dIx (mVar 1) (M.pure (.int 0))) (mBin dIx (mVar 0) (M.pure (.int 1))))))
noncomputable def fn_is_less : List D → Rf := runF none 2 fb_is_less
noncomputable def fb_total : M Fl :=
  mSeq (mSet 1 (mOf (M.pure (.tup [(.int 0), (.int 1)]))))
    (mSeq (mFor (mIter (mVar 0)) (gN 2) (mSet 1 (mCallN 2 none fn_plus (xV (mVar 1) (xV (mVar 2) (xNil))))))
    (mRet (mMove 1)))
noncomputable def fn_total : List D → Rf := runF none 3 fb_total
noncomputable def fb__law_stream : M Fl :=
  mSeq (mIf (mTest (mBin dLt (mVar 1) (mCall dLen (mCons (mVar 0) (mNil))))) (mSeq (mSet 2 (mOf (mBin dIx (mVar 0) (mVar 1))))
    (mSeq (mSet 3 (mOf (mBin dAdd (mBin dAdd (mBin dMod (mVar 2) (M.pure (.int 2147483629))) (mBin dMul (mVar 1) (mVar 1))) (M.pure (.int 1)))))
    (mSeq (mIf (mTest (mBin dLt (mVar 2) (mBin dPow (M.pure (.int 10)) (M.pure (.int 18))))) (mSet 2 (mOf (M.pure (.int 0)))) (mNx))
    (mRet (mLst (mCons (mVar 2) (mCons (mVar 3) (mNil)))))))) (mNx))
    (mRet (mLst (mCons (M.pure (.int 0)) (mCons (mBin dAdd (mBin dMul (mVar 1) (mVar 1)) (M.pure (.int 11))) (mNil)))))
noncomputable def fn__law_stream : List D → Rf := runF none 4 fb__law_stream
noncomputable def fb__law_take : M Fl :=
  mSeq (mIf (mTest (mBin dEq (mPeek 0 (M.pure (.int 0))) (M.pure (.int 0)))) (mSeq (mPutAt 0 (mBin dMod (mBin dAdd (mBin dMul (mPeek 0 (M.pure (.int 1))) (M.pure (.int 48271))) (M.pure (.int 12345))) (M.pure (.int 2147483647))) (M.pure (.int 1)))
    (mRet (mOf (mBin dMod (mBin dMod (mBin dMul (mPeek 0 (M.pure (.int 1))) (mPeek 0 (M.pure (.int 1)))) (M.pure (.int 2147483629))) (mVar 1))))) (mNx))
    (mSeq (mSet 2 (mOf (mBin dMod (mPeek 0 (M.pure (.int 0))) (mVar 1))))
    (mSeq (mPutAt 0 (mBin dDiv (mPeek 0 (M.pure (.int 0))) (mVar 1)) (M.pure (.int 0)))
    (mRet (mMove 2))))
noncomputable def fn__law_take : List D → Rf := runF (some 0) 3 fb__law_take
noncomputable def fb__law_fraction : M Fl :=
  mSeq (mSet 2 (mOf (mCall dAbs (mCons (mVar 0) (mNil)))))
    (mSeq (mSet 3 (mOf (mVar 1)))
    (mSeq (mWh (mTest (mBin dGt (mVar 3) (M.pure (.int 0)))) (mPar 2 3 (mCons (mVar 3) (mCons (mBin dMod (mVar 2) (mVar 3)) (mNil)))))
    (mRet (mOf (mTup (mCons (mBin dDiv (mVar 0) (mVar 2)) (mCons (mBin dDiv (mVar 1) (mVar 2)) (mNil))))))))
noncomputable def fn__law_fraction : List D → Rf := runF none 4 fb__law_fraction
end Std
namespace Std
open PySem L2 Dt
theorem common_loop : ∀ (n a b : Nat), b < n → mWhN (mTest (mBin dNe (mVar 1) (M.pure (.int 0)))) (mPar 0 1 (mCons (mVar 1) (mCons (mBin dMod (mVar 0) (mVar 1)) (mNil)))) n [.fz (.int a), .fz (.int b)] = .ok .nx [.fz (.int (Nat.gcd a b : Nat)), .fz (.int 0)]
  | 0, a, b, h => by omega
  | n + 1, a, 0, h => by
    unfold mWhN
    simp
  | n + 1, a, b + 1, h => by
    unfold mWhN
    have e : ((a : Int).fmod ((b + 1 : Nat) : Int)) = ((a % (b + 1) : Nat) : Int) := by
      rw [Int.fmod_eq_emod_of_nonneg _ (by omega)]; rfl
    have hb : ((b + 1 : Nat) : Int) ≠ 0 := by omega
    have ih := common_loop n (b + 1) (a % (b + 1)) (by have := Nat.mod_lt a (show 0 < b + 1 by omega); omega)
    have hz : decide (((b + 1 : Nat) : Int) = 0) = false := decide_eq_false hb
    simp only [bind_ap, test_ap, bin_ap, var_ap, List.getElem?_cons_succ, List.getElem?_cons_zero, ok_bnd, pure_ap, opt_some, dNe_i, hz, Bool.not_false, asBl_bl, par_ap, cons_ap, nil_ap, dMod_i, modOk_of hb, if_true, List.set_cons_zero, List.set_cons_succ, e]
    rw [ih]
    congr 4
    rw [Nat.gcd_comm a (b + 1), Nat.gcd_rec (b + 1) a, Nat.gcd_comm]
theorem common_ok (a b : Nat) : fn_common [.int a, .int b] = .ok (.int (Nat.gcd a b : Nat)) .ff .non := by
  have h := common_loop (b + 1) a b (by omega)
  have hw := mWh_eq (t := mTest (mBin dNe (mVar 1) (M.pure (.int 0)))) (b := mPar 0 1 (mCons (mVar 1) (mCons (mBin dMod (mVar 0) (mVar 1)) (mNil)))) (n := b + 1) (ρ := [.fz (.int a), .fz (.int b)]) (by rw [h]; intro z; cases z)
  rw [h] at hw
  unfold fn_common runF fb_common
  simp [hw]
theorem e_common {a b : Int} (h : 0 ≤ a ∧ 0 ≤ b) : fn_common [.int a, .int b] = .ok (.int ((Nat.gcd a.toNat b.toNat : Nat) : Int)) .ff .non := by
  have := common_ok a.toNat b.toNat
  rw [Int.toNat_of_nonneg h.1, Int.toNat_of_nonneg h.2] at this
  exact this
theorem num_div (a b : Int) : (Rat.divInt a b).num = b.sign * a / ((Nat.gcd a.natAbs b.natAbs : Nat) : Int) := by
  rw [Rat.num_divInt, Int.gcd, Nat.gcd_comm]
theorem den_div {a b : Int} (hb : b ≠ 0) : (Rat.divInt a b).den = b.natAbs / Nat.gcd a.natAbs b.natAbs := by
  rw [Rat.den_divInt, if_neg hb, Int.gcd, Nat.gcd_comm]
theorem frac_pair {a b : Int} (hb : b ≠ 0) (s : Int) (hs : s = if b < 0 then 0 - ((Nat.gcd a.natAbs b.natAbs : Nat) : Int) else ((Nat.gcd a.natAbs b.natAbs : Nat) : Int)) :
    D.tup [.int (a.fdiv s), .int (b.fdiv s)] = fq (Rat.divInt a b) := by
  have hg : 0 < Nat.gcd a.natAbs b.natAbs := Nat.gcd_pos_of_pos_right _ (by omega)
  have da : ((Nat.gcd a.natAbs b.natAbs : Nat) : Int) ∣ a := Int.ofNat_dvd_left.mpr (Nat.gcd_dvd_left _ _)
  have db : ((Nat.gcd a.natAbs b.natAbs : Nat) : Int) ∣ b := Int.ofNat_dvd_left.mpr (Nat.gcd_dvd_right _ _)
  unfold fq
  rw [num_div, den_div hb, Int.natCast_ediv]
  generalize hG : ((Nat.gcd a.natAbs b.natAbs : Nat) : Int) = g at *
  by_cases h : b < 0
  · rw [if_pos h] at hs
    have es : s = -g := by omega
    rw [es, Int.fdiv_eq_ediv_of_dvd (Int.neg_dvd.mpr da), Int.fdiv_eq_ediv_of_dvd (Int.neg_dvd.mpr db), Int.sign_eq_neg_one_of_neg h, Int.ediv_neg, Int.ediv_neg]
    have e1 : (-1 * a) / g = -(a / g) := by
      rw [show -1 * a = -a by omega, Int.neg_ediv_of_dvd da]
    have e2 : ((b.natAbs : Nat) : Int) / g = -(b / g) := by
      rw [show ((b.natAbs : Nat) : Int) = -b by omega, Int.neg_ediv_of_dvd db]
    rw [e1, e2]
  · rw [if_neg h] at hs
    rw [hs, Int.fdiv_eq_ediv_of_dvd da, Int.fdiv_eq_ediv_of_dvd db, Int.sign_eq_one_of_pos (by omega)]
    rw [show ((b.natAbs : Nat) : Int) = b by omega, show (1 : Int) * a = a by omega]
theorem e_fraction {a b : Int} (hb : b ≠ 0) : fn_fraction [.int a, .int b] = .ok (fq (Rat.divInt a b)) .ff .non := by
  have hg : 0 < Nat.gcd a.natAbs b.natAbs := Nat.gcd_pos_of_pos_right _ (by omega)
  unfold fn_fraction runF fb_fraction
  by_cases h : b < 0
  · rw [← frac_pair (a := a) hb (-((Nat.gcd a.natAbs b.natAbs : Nat) : Int)) (by rw [if_pos h]; omega)]
    have hd : ∀ x : Int, divOk x (-((Nat.gcd a.natAbs b.natAbs : Nat) : Int)) = true := fun x => divOk_of (by omega)
    simp [hb, common_ok, h, hd]
  · rw [← frac_pair (a := a) hb ((Nat.gcd a.natAbs b.natAbs : Nat) : Int) (by rw [if_neg h])]
    have hd : ∀ x : Int, divOk x ((Nat.gcd a.natAbs b.natAbs : Nat) : Int) = true := fun x => divOk_of (by omega)
    simp [hb, common_ok, h, hd]
def Sz (n : Nat) (q : Rat) : Prop := q.num.natAbs < 2 ^ n ∧ q.den < 2 ^ n
theorem den_pos (q : Rat) : 0 < q.den := Nat.pos_of_ne_zero q.den_nz
theorem sz_div {a b : Int} {n : Nat} (hb : b ≠ 0) (h1 : a.natAbs < 2 ^ n) (h2 : b.natAbs < 2 ^ n) : Sz n (Rat.divInt a b) := by
  constructor
  · rw [num_div]
    refine Nat.lt_of_le_of_lt ?_ h1
    have hg : 0 < Nat.gcd a.natAbs b.natAbs := Nat.gcd_pos_of_pos_right _ (by omega)
    rw [Int.natAbs_ediv_of_dvd]
    · refine Nat.le_trans (Nat.div_le_self _ _) ?_
      rw [Int.natAbs_mul, Int.natAbs_sign_of_ne_zero hb, Nat.one_mul]; exact Nat.le_refl _
    · exact Int.dvd_mul_of_dvd_right (Int.ofNat_dvd_left.mpr (Nat.gcd_dvd_left _ _))
  · rw [den_div hb]
    exact Nat.lt_of_le_of_lt (Nat.div_le_self _ _) h2
theorem mul_lt_two {a b n m : Nat} (ha : a < 2 ^ n) (hb : b < 2 ^ m) : a * b < 2 ^ (n + m) := by
  rw [Nat.pow_add]; exact Nat.mul_lt_mul'' ha hb
theorem add_div (p q : Rat) : Rat.divInt (p.num * (q.den : Int) + q.num * (p.den : Int)) ((p.den : Int) * (q.den : Int)) = p + q := by
  rw [Rat.add_def', ← Int.natCast_mul, Rat.divInt_ofNat]
theorem sz_add {n m : Nat} {p q : Rat} (hp : Sz n p) (hq : Sz m q) : Sz (n + m + 1) (p + q) := by
  rw [← add_div]
  have d1 := den_pos p
  have d2 := den_pos q
  have h0 : ((p.den : Int) * (q.den : Int)) ≠ 0 := Int.mul_ne_zero (by omega) (by omega)
  have m1 := mul_lt_two hp.1 hq.2
  have m2 := mul_lt_two hq.1 hp.2
  have m3 := mul_lt_two hp.2 hq.2
  refine sz_div h0 ?_ ?_
  · refine Nat.lt_of_le_of_lt (Int.natAbs_add_le _ _) ?_
    rw [Int.natAbs_mul, Int.natAbs_mul, Int.natAbs_natCast, Int.natAbs_natCast, Nat.pow_succ]
    rw [Nat.add_comm m n] at m2
    omega
  · rw [Int.natAbs_mul, Int.natAbs_natCast, Int.natAbs_natCast, Nat.pow_succ]
    omega
theorem num_pos {q : Rat} (h : 0 < q) : 0 < q.num := by
  have := (Rat.lt_iff 0 q).mp h
  simpa using this
def sz (q : Rat) : Nat := max q.num.natAbs.log2 q.den.log2 + 1
theorem lt_log (n : Nat) : n < 2 ^ (n.log2 + 1) := Nat.lt_log2_self
theorem sz_Sz (q : Rat) : Sz (sz q) q := ⟨Nat.lt_of_lt_of_le (lt_log _) (Nat.pow_le_pow_right (by decide) (by unfold sz; omega)), Nat.lt_of_lt_of_le (lt_log _) (Nat.pow_le_pow_right (by decide) (by unfold sz; omega))⟩
theorem log_le {n k : Nat} (h : n < 2 ^ k) (hk : 1 ≤ k) : n.log2 + 1 ≤ k := by
  rcases Nat.eq_zero_or_pos n with z | z
  · subst z; simpa using hk
  · exact (Nat.log2_lt (by omega)).mpr h
theorem sz_le {n : Nat} {q : Rat} (h : Sz n q) : sz q ≤ n := by
  have hn : 1 ≤ n := by
    rcases Nat.eq_zero_or_pos n with z | z
    · subst z; have := h.2; have := den_pos q; omega
    · exact z
  have h1 := log_le h.1 hn
  have h2 := log_le h.2 hn
  unfold sz; omega
theorem sz_addL (p q : Rat) : sz (p + q) ≤ sz p + sz q + 1 := sz_le (sz_add (sz_Sz p) (sz_Sz q))
theorem sz_0 : sz 0 = 1 := rfl
theorem sz_1 : sz 1 = 1 := rfl
def SQ (p q : Rat) : Prop := sz p + sz q ≤ 80000000
theorem mok {p q : Int} {a b : Nat} (hp : p.natAbs < 2 ^ a) (hq : q.natAbs < 2 ^ b) (h : a + b ≤ 90000000) : mulOk p q = true := mulOk_of hp hq h
theorem nabs_lt {k n : Nat} (h : k < 2 ^ n) : ((k : Nat) : Int).natAbs < 2 ^ n := by rw [Int.natAbs_natCast]; exact h
theorem den_mul (p q : Rat) : ((p.den : Int) * (q.den : Int)) ≠ 0 := by
  have d1 := den_pos p
  have d2 := den_pos q
  exact Int.mul_ne_zero (by omega) (by omega)
section
variable {p q : Rat}
theorem mk1 (h : SQ p q) : mulOk p.num (q.den : Int) = true := mok (sz_Sz p).1 (nabs_lt (sz_Sz q).2) (by unfold SQ at h; omega)
theorem mk2 (h : SQ p q) : mulOk q.num (p.den : Int) = true := mok (sz_Sz q).1 (nabs_lt (sz_Sz p).2) (by unfold SQ at h; omega)
theorem mk3 (h : SQ p q) : mulOk (p.den : Int) (q.den : Int) = true := mok (nabs_lt (sz_Sz p).2) (nabs_lt (sz_Sz q).2) (by unfold SQ at h; omega)
theorem e_plus (h : SQ p q) : fn_plus [fq p, fq q] = .ok (fq (p + q)) .ff .non := by
  unfold fn_plus runF fb_plus
  simp [fq, mk1 h, mk2 h, mk3 h]
  rw [e_fraction (den_mul p q), add_div]
  rfl
theorem e_is_less (h : SQ p q) : fn_is_less [fq p, fq q] = .ok (.bl (decide (p < q))) .ff .non := by
  unfold fn_is_less runF fb_is_less
  have e : decide (p < q) = decide (p.num * (q.den : Int) < q.num * (p.den : Int)) := decide_eq_decide.mpr (Rat.lt_iff p q)
  rw [e]
  simp [fq, mk1 h, mk2 h]
end
def sumQ (xs : List Rat) : Rat := xs.foldl (· + ·) 0
def tsz (xs : List Rat) : Nat := (xs.map fun x => sz x + 1).sum + 1
theorem sz_fold : ∀ (xs : List Rat) (a : Rat), sz (xs.foldl (· + ·) a) ≤ sz a + (xs.map fun x => sz x + 1).sum
  | [], a => by simp
  | x :: r, a => by
    have h1 := sz_fold r (a + x)
    have h2 := sz_addL a x
    simp only [List.foldl_cons, List.map_cons, List.sum_cons]
    omega
theorem sz_sumL (xs : List Rat) : sz (sumQ xs) ≤ tsz xs := by
  have := sz_fold xs 0
  rw [sz_0] at this
  unfold sumQ tsz; omega
theorem tsz_le {xs : List Rat} {n : Nat} (h : ∀ x ∈ xs, sz x ≤ n) : tsz xs ≤ xs.length * (n + 1) + 1 := by
  unfold tsz
  induction xs with
  | nil => simp
  | cons x r ih =>
    have h1 := ih fun y hy => h y (List.mem_cons_of_mem _ hy)
    have h2 := h x (by simp)
    simp only [List.map_cons, List.sum_cons, List.length_cons, Nat.succ_mul]
    omega
theorem total_loop : ∀ {xs : List Rat} {a : Rat} {s t : Slot}, sz a + (xs.map fun x => sz x + 1).sum ≤ 80000000 →
    ∃ t', mForL (gN 2) (mSet 1 (mCallN 2 none fn_plus (xV (mVar 1) (xV (mVar 2) (xNil))))) (xs.map fq) [s, .fz (fq a), t] = .ok .nx [s, .fz (fq (xs.foldl (· + ·) a)), t']
  | [], a, s, t, _ => ⟨t, rfl⟩
  | x :: r, a, s, t, h => by
    simp only [List.map_cons, List.sum_cons] at h
    have h1 := sz_addL a x
    obtain ⟨t', e⟩ := total_loop (xs := r) (a := a + x) (s := s) (t := .fz (fq x)) (by omega)
    refine ⟨t', ?_⟩
    rw [List.map_cons, forL_cons]
    simp -implicitDefEqProofs [e_plus (p := a) (q := x) (by unfold SQ; omega), e]
theorem e_total {xs : List Rat} (h : tsz xs ≤ 80000000) : fn_total [eL fq xs] = .ok (fq (sumQ xs)) .ff .non := by
  obtain ⟨t', e⟩ := total_loop (s := .fz (eL fq xs)) (t := .un) (xs := xs) (a := 0) (by rw [sz_0]; unfold tsz at h; omega)
  unfold fn_total runF fb_total
  unfold eL at e ⊢
  have e0 : fq 0 = .tup [.int 0, .int 1] := rfl
  rw [e0] at e
  simp -implicitDefEqProofs [e, sumQ]
theorem lawf_loop {u v : Slot} : ∀ (n a b : Nat), b < n → mWhN (mTest (mBin dGt (mVar 3) (M.pure (.int 0)))) (mPar 2 3 (mCons (mVar 3) (mCons (mBin dMod (mVar 2) (mVar 3)) (mNil)))) n [u, v, .fz (.int a), .fz (.int b)] = .ok .nx [u, v, .fz (.int (Nat.gcd a b : Nat)), .fz (.int 0)]
  | 0, a, b, h => by omega
  | n + 1, a, 0, h => by
    unfold mWhN
    simp
  | n + 1, a, b + 1, h => by
    unfold mWhN
    have e : ((a : Int).fmod ((b + 1 : Nat) : Int)) = ((a % (b + 1) : Nat) : Int) := by
      rw [Int.fmod_eq_emod_of_nonneg _ (by omega)]; rfl
    have hb : ((b + 1 : Nat) : Int) ≠ 0 := by omega
    have hb1 : (0 : Int) < ((b + 1 : Nat) : Int) := by omega
    have ih := lawf_loop (u := u) (v := v) n (b + 1) (a % (b + 1)) (by have := Nat.mod_lt a (show 0 < b + 1 by omega); omega)
    have hz : decide ((0 : Int) < ((b + 1 : Nat) : Int)) = true := decide_eq_true hb1
    simp only [bind_ap, test_ap, bin_ap, var_ap, List.getElem?_cons_succ, List.getElem?_cons_zero, ok_bnd, pure_ap, opt_some, dGt_i, hz, asBl_bl, par_ap, cons_ap, nil_ap, dMod_i, modOk_of hb, if_true, List.set_cons_zero, List.set_cons_succ, e]
    rw [ih]
    congr 6
    rw [Nat.gcd_comm a (b + 1), Nat.gcd_rec (b + 1) a, Nat.gcd_comm]
theorem e__law_fraction {a b : Int} (hb : 0 < b) : fn__law_fraction [.int a, .int b] = .ok (fq (Rat.divInt a b)) .ff .non := by
  have hg : 0 < Nat.gcd a.natAbs b.natAbs := Nat.gcd_pos_of_pos_right _ (by omega)
  have h := lawf_loop (u := .fz (.int a)) (v := .fz (.int b)) (b.natAbs + 1) a.natAbs b.natAbs (by omega)
  have hw := mWh_eq (t := mTest (mBin dGt (mVar 3) (M.pure (.int 0)))) (b := mPar 2 3 (mCons (mVar 3) (mCons (mBin dMod (mVar 2) (mVar 3)) (mNil)))) (n := b.natAbs + 1) (ρ := [.fz (.int a), .fz (.int b), .fz (.int (a.natAbs : Nat)), .fz (.int (b.natAbs : Nat))]) (by rw [h]; intro z; cases z)
  rw [h, show ((b.natAbs : Nat) : Int) = b by omega] at hw
  rw [← frac_pair (a := a) (by omega) ((Nat.gcd a.natAbs b.natAbs : Nat) : Int) (by rw [if_neg (by omega)])]
  have hd : ∀ x : Int, divOk x ((Nat.gcd a.natAbs b.natAbs : Nat) : Int) = true := fun x => divOk_of (by omega)
  unfold fn__law_fraction runF fb__law_fraction
  simp [hw, hd]
section
variable {p q : Rat}
end
structure Stm where
  c : Int
  m : Int
  c0 : 0 ≤ c
  m0 : 0 ≤ m
  m1 : m < 2 ^ 40
def eStm (s : Stm) : D := .lst [.int s.c, .int s.m]
instance : Inhabited Stm := ⟨⟨0, 0, by decide, by decide, by decide⟩⟩
def mixed (m : Int) : Int := (m * 48271 + 12345).fmod 2147483647
theorem mixed_b (m : Int) : 0 ≤ mixed m ∧ mixed m < 2147483647 := by
  unfold mixed
  rw [Int.fmod_eq_emod_of_nonneg _ (by decide)]
  omega
def t__law_take (s : Stm) (most : Int) : Int × Stm :=
  if h : s.c = 0 then (((mixed s.m * mixed s.m).fmod 2147483629).fmod most, ⟨0, mixed s.m, by decide, (mixed_b s.m).1, by have := (mixed_b s.m).2; omega⟩)
  else if h2 : 0 < most then (s.c.fmod most, ⟨s.c.fdiv most, s.m, by rw [Int.fdiv_eq_ediv_of_nonneg _ (by omega)]; exact Int.ediv_nonneg s.c0 (by omega), s.m0, s.m1⟩)
  else (0, s)
theorem e__law_take {s : Stm} {most : Int} (h0 : 0 < most) : fn__law_take [eStm s, .int most] = .ok (.int (t__law_take s most).1) .ff (eStm (t__law_take s most).2) := by
  obtain ⟨c, m, hc, hm0, hm1⟩ := s
  have hn : most ≠ 0 := by omega
  unfold fn__law_take runF fb__law_take t__law_take eStm
  by_cases z : c = 0
  · subst z
    have k1 : mulOk m 48271 = true := mok (a := 40) (b := 20) (by omega) (by decide) (by decide)
    have k2 : mulOk (mixed m) (mixed m) = true := by
      have := mixed_b m
      exact mok (a := 40) (b := 40) (by omega) (by omega) (by decide)
    have k3 := k2
    unfold mixed at k3
    simp [k1, k3, hn, mixed]
  · have k1 : divOk c most = true := divOk_of hn
    simp [z, k1, hn, h0]
theorem take_b {s : Stm} {most : Int} (h0 : 0 < most) : 0 ≤ (t__law_take s most).1 ∧ (t__law_take s most).1 < most := by
  have hn : most ≠ 0 := by omega
  unfold t__law_take
  split
  · rw [Int.fmod_eq_emod_of_nonneg _ (show (0 : Int) ≤ most by omega)]; exact ⟨Int.emod_nonneg _ hn, Int.emod_lt_of_pos _ h0⟩
  · dsimp only
    rw [Int.fmod_eq_emod_of_nonneg _ (show (0 : Int) ≤ most by omega)]; exact ⟨Int.emod_nonneg _ hn, Int.emod_lt_of_pos _ h0⟩
theorem sq_b {k : Int} (h0 : 0 ≤ k) (h1 : k < 1000) : 0 ≤ k * k ∧ k * k ≤ 1000000 :=
  ⟨Int.mul_nonneg h0 h0, by
    have : k * k ≤ 1000 * 1000 := Int.mul_le_mul (by omega) (by omega) h0 (by omega)
    omega⟩
def t__law_stream (ns : List Int) (k : Int) : Stm :=
  if h : 0 ≤ k ∧ k < 1000 then
    (if k < ns.length then ⟨if ix ns k < 1000000000000000000 then 0 else ix ns k, (ix ns k).fmod 2147483629 + k * k + 1, by split <;> omega, by
        rw [Int.fmod_eq_emod_of_nonneg _ (by decide)]
        have := sq_b h.1 h.2
        omega, by
        rw [Int.fmod_eq_emod_of_nonneg _ (by decide)]
        have := sq_b h.1 h.2
        omega⟩
    else ⟨0, k * k + 11, by decide, by have := sq_b h.1 h.2; omega, by have := sq_b h.1 h.2; omega⟩)
  else default
theorem e__law_stream {ns : List Int} {k : Int} (h : 0 ≤ k ∧ k < 1000) : fn__law_stream [.scr ns, .int k] = .ok (eStm (t__law_stream ns k)) .tt .non := by
  have k1 : mulOk k k = true := mok (a := 20) (b := 20) (by omega) (by omega) (by decide)
  unfold fn__law_stream runF fb__law_stream t__law_stream
  rw [dif_pos h]
  by_cases c : k < ns.length
  · have e : L2.atI ns k = some (ix ns k) := by
      have := at_of (F := (id : Int → Int)) (xs := ns) (i := k) ⟨by omega, c⟩
      rw [List.map_id] at this
      exact this
    have hp : powOk 10 18 = true := by decide
    rw [if_pos c]
    by_cases hx : ix ns k < 1000000000000000000
    · simp [c, e, k1, hp, hx, eStm]
    · simp [c, e, k1, hp, hx, eStm]
  · rw [if_neg c]
    simp [c, k1, eStm]
end Std
namespace Net
open PySem PySem.Spec PyProof.Rows L2 Dt
noncomputable def fb_ask : M Fl :=
  mSeq (mIf (mNot (mTest (mVar 0))) (M.bind (mVar 1) fun _ => M.raise "NoNet") mNx)
    mNx
noncomputable def fn_ask : List D → Rf := runF none 2 fb_ask
noncomputable def t_ask (v_good : Bool) (v_words : Str) : Unit :=
  cond (!v_good) default ()
def s_ask (v_good : Bool) (v_words : Str) : Prop :=
  ((!v_good) = true → False)
theorem e_ask {v_good : Bool} {v_words : Str} (h : s_ask v_good v_words) : fn_ask [D.bl v_good, D.str v_words] = .ok (eN (t_ask v_good v_words)) .ff .non := by
  refine runE (fb := fb_ask) (x := t_ask v_good v_words) ?_
  show JE (fb_ask [.fz (D.bl v_good), .fz (D.str v_words)]) _
  delta fb_ask t_ask
  delta s_ask at h
  exact sqIf (nt (tst (vf 0 rfl))) (fun hc => bdh (h hc) (fun h => h.elim)) (fun _ => sq rfl (⟨_, rfl⟩))
noncomputable def fb_ask_fraction : M Fl :=
  mSeq (mAsg (gT 2 (gsC (gN 2) (gsC (gN 3) gsN))) (mVar 0))
    (mSeq (mDrop (mFz (mCallN 2 none fn_ask (xV (mAndV (mChain dLe dLe (M.pure (.int 0)) (mVar 2) (M.pure (.int 1000))) (mAndV (mChain dLe dLe (M.pure (.int 1)) (mVar 3) (M.pure (.int 1000))) (mBin dEq (mFz (mCallN 2 none Std.fn_common (xV (mVar 2) (xV (mVar 3) xNil)))) (M.pure (.int 1))))) (xV (M.pure (.str "fractions in least terms")) xNil)))))
    (mSeq (mDrop (mFz (mCallN 2 none fn_ask (xV (mOrV (mBin dGt (mVar 2) (M.pure (.int 0))) (mNotV (mVar 1))) (xV (M.pure (.str "above nought")) xNil)))))
    mNx))
noncomputable def fn_ask_fraction : List D → Rf := runF none 4 fb_ask_fraction
noncomputable def t_ask_fraction (v_one : Rat) (v_above_nought : Bool) : Unit :=
  bd v_one (fun (z1 : Rat) => ())
def s_ask_fraction (v_one : Rat) (v_above_nought : Bool) : Prop :=
  bd v_one (fun (z1 : Rat) => ((((decide ((0 : Int) ≤ z1.num)) && (decide (z1.num ≤ (1000 : Int)))) = true → (((decide ((1 : Int) ≤ (z1.den : Int))) && (decide ((z1.den : Int) ≤ (1000 : Int)))) = true → (0 ≤ z1.num ∧ 0 ≤ (z1.den : Int)))) ∧ (s_ask ((((decide ((0 : Int) ≤ z1.num)) && (decide (z1.num ≤ (1000 : Int)))) && (((decide ((1 : Int) ≤ (z1.den : Int))) && (decide ((z1.den : Int) ≤ (1000 : Int)))) && (decide (((Nat.gcd z1.num.toNat ((z1.den : Int)).toNat : Nat) : Int) = (1 : Int)))))) (("fractions in least terms" : Str))) ∧ ((s_ask (((decide ((0 : Int) < z1.num)) || (!v_above_nought))) (("above nought" : Str))))))
theorem e_ask_fraction {v_one : Rat} {v_above_nought : Bool} (h : s_ask_fraction v_one v_above_nought) : fn_ask_fraction [fq v_one, D.bl v_above_nought] = .ok (eN (t_ask_fraction v_one v_above_nought)) .ff .non := by
  refine runE (fb := fb_ask_fraction) (x := t_ask_fraction v_one v_above_nought) ?_
  show JE (fb_ask_fraction [zQ v_one, .fz (D.bl v_above_nought), .un, .un]) _
  delta fb_ask_fraction t_ask_fraction
  delta s_ask_fraction at h
  exact sqB (ctx := fun (z1 : Rat) => [zQ v_one, .fz (D.bl v_above_nought), zI z1.num, .fz (D.int ((z1.den : Int)))]) (sAsg (vf 0 rfl) rfl) h (fun z1 h => sq (ρ1 := [zQ v_one, .fz (D.bl v_above_nought), zI z1.num, .fz (D.int ((z1.den : Int)))]) (sDrop (mfz (cN (x1 (anV (chn rfl (vf 2 rfl) rfl (fun hc2 => rfl) (fun _ => rfl)) (fun hc5 => anV (chn rfl (vf 3 rfl) rfl (fun hc3 => rfl) (fun _ => rfl)) (fun hc4 => b2 (mfz (cN (x1 (vf 2 rfl) (x1 (vf 3 rfl) x0)) rfl rfl (Std.e_common (a := z1.num) (b := (z1.den : Int)) ((h.1 hc5) hc4) :) rfl)) rfl dEq_i))) (x1 rfl x0)) rfl rfl (e_ask (v_good := (((decide ((0 : Int) ≤ z1.num)) && (decide (z1.num ≤ (1000 : Int)))) && (((decide ((1 : Int) ≤ (z1.den : Int))) && (decide ((z1.den : Int) ≤ (1000 : Int)))) && (decide (((Nat.gcd z1.num.toNat ((z1.den : Int)).toNat : Nat) : Int) = (1 : Int)))))) (v_words := ("fractions in least terms" : Str)) h.2.1 :) rfl))) (bdh h.2.2 (fun h => sq (ρ1 := [zQ v_one, .fz (D.bl v_above_nought), zI z1.num, .fz (D.int ((z1.den : Int)))]) (sDrop (mfz (cN (x1 (orV (b2 (vf 2 rfl) rfl rfl) (fun hc6 => ntV (vf 1 rfl))) (x1 rfl x0)) rfl rfl (e_ask (v_good := ((decide ((0 : Int) < z1.num)) || (!v_above_nought))) (v_words := ("above nought" : Str)) h :) rfl))) (⟨_, rfl⟩))))
noncomputable def fb_ask_line : M Fl :=
  mSeq (mAsg (gT 4 (gsC (gN 2) (gsC (gN 3) (gsC (gN 4) (gsC (gN 5) gsN))))) (mVar 0))
    (mSeq (mDrop (mFz (mCallN 2 none fn_ask (xV (mChain dLe dLe (M.pure (.int 1)) (mCall dLen (mCons (mVar 2) mNil)) (M.pure (.int 6))) (xV (M.pure (.str "one to six speeds")) xNil)))))
    (mSeq (mFor (mIter (mVar 2)) (gN 1) (mSeq (mDrop (mFz (mCallN 2 none fn_ask_fraction (xV (mVar 1) (xV (M.pure (.bl true)) xNil)))))
    (mSeq (mKill [1]) mNx)))
    (mSeq (mFor (mZip (mCons (mFz (mSl (mVar 2) (mPart none) (mPart (some (mUn dNeg (M.pure (.int 1))))))) (mCons (mFz (mSl (mVar 2) (mPart (some (M.pure (.int 1)))) (mPart none))) mNil))) (gT 2 (gsC (gN 1) (gsC (gN 6) gsN))) (mSeq (mDrop (mFz (mCallN 2 none fn_ask (xV (mNotV (mFz (mCallN 2 none Std.fn_is_less (xV (mVar 6) (xV (mVar 1) xNil))))) (xV (M.pure (.str "speeds never fall")) xNil)))))
    (mSeq (mKill [1, 6]) mNx)))
    (mSeq (mDrop (mFz (mCallN 2 none fn_ask_fraction (xV (mVar 3) (xV (M.pure (.bl false)) xNil)))))
    (mSeq (mDrop (mFz (mCallN 2 none fn_ask (xV (mChain dLe dLe (M.pure (.int 0)) (mVar 4) (M.pure (.int 9))) (xV (M.pure (.str "a room is 0 to 9")) xNil)))))
    (mSeq (mIf (mTest (mBin dEq (mVar 4) (M.pure (.int 0)))) (mSeq (mDrop (mFz (mCallN 2 none fn_ask (xV (mBin dEq (mVar 5) (M.pure (.str ""))) (xV (M.pure (.str "no rule without a room")) xNil)))))
    mNx) (mSeq (mDrop (mFz (mCallN 2 none fn_ask (xV (mBin (dIn false) (mVar 5) (M.pure (.tup [(.str "stay"), (.str "lose"), (.str "skip")]))) (xV (M.pure (.str "a rule is stay, lose or skip")) xNil)))))
    mNx))
    mNx))))))
noncomputable def fn_ask_line : List D → Rf := runF none 7 fb_ask_line
noncomputable def t_ask_line (v_line : Line) : Unit :=
  bd v_line (fun (z1 : Line) => ())
def s_ask_line (v_line : Line) : Prop :=
  bd v_line (fun (z1 : Line) => ((s_ask (((decide ((1 : Int) ≤ (z1.1.length : Int))) && (decide ((z1.1.length : Int) ≤ (6 : Int))))) (("one to six speeds" : Str))) ∧ (((sfl (fun (z3 : Unit) (xv4 : Rat) => ()) (fun (z3 : Unit) (xv4 : Rat) => (s_ask_fraction xv4 true)) z1.1 ()) ∧ (((sfl (fun (z5 : Unit) (xv6 : (Rat × Rat)) => ()) (fun (z5 : Unit) (xv6 : (Rat × Rat)) => ((Std.SQ xv6.2 xv6.1) ∧ (s_ask ((!(decide (xv6.2 < xv6.1)))) (("speeds never fall" : Str))))) (((cut z1.1 none (some ((-(1 : Int)))))).zip ((cut z1.1 (some ((1 : Int))) none))) ()) ∧ (((s_ask_fraction z1.2.1 false) ∧ (((s_ask (((decide ((0 : Int) ≤ z1.2.2.1)) && (decide (z1.2.2.1 ≤ (9 : Int))))) (("a room is 0 to 9" : Str))) ∧ ((((decide (z1.2.2.1 = (0 : Int))) = true → (s_ask ((decide (z1.2.2.2 = ("" : Str)))) (("no rule without a room" : Str)))) ∧ ((decide (z1.2.2.1 = (0 : Int))) = false → (s_ask ((decide (z1.2.2.2 ∈ [("stay" : Str), ("lose" : Str), ("skip" : Str)]))) (("a rule is stay, lose or skip" : Str))))))))))))))))
theorem e_ask_line {v_line : Line} (h : s_ask_line v_line) : fn_ask_line [eLine v_line] = .ok (eN (t_ask_line v_line)) .ff .non := by
  refine runE (fb := fb_ask_line) (x := t_ask_line v_line) ?_
  show JE (fb_ask_line [.fz (eLine v_line), .un, .un, .un, .un, .un, .un]) _
  delta fb_ask_line t_ask_line
  delta s_ask_line at h
  exact sqB (ctx := fun (z1 : Line) => [.fz (eLine v_line), .un, zL z1.1, zQ z1.2.1, zI z1.2.2.1, .fz (D.str z1.2.2.2), .un]) (sAsg (vf 0 rfl) rfl) h (fun z1 h => sq (ρ1 := [.fz (eLine v_line), .un, zL z1.1, zQ z1.2.1, zI z1.2.2.1, .fz (D.str z1.2.2.2), .un]) (sDrop (mfz (cN (x1 (chn rfl (c1 (a1 (vf 2 rfl) a0) (o_lenL (F := fq))) rfl (fun hc2 => rfl) (fun _ => rfl)) (x1 rfl x0)) rfl rfl (e_ask (v_good := ((decide ((1 : Int) ≤ (z1.1.length : Int))) && (decide ((z1.1.length : Int) ≤ (6 : Int))))) (v_words := ("one to six speeds" : Str)) h.1 :) rfl))) (bdh h.2 (fun h => sq (ρ1 := [.fz (eLine v_line), .un, zL z1.1, zQ z1.2.1, zI z1.2.2.1, .fz (D.str z1.2.2.2), .un]) (forN (F := fq) (ctx := fun (z3 : Unit) => [.fz (eLine v_line), .un, zL z1.1, zQ z1.2.1, zI z1.2.2.1, .fz (D.str z1.2.2.2), .un]) (i_L (F := fq) (vf 2 rfl)) h.1 (fun z3 xv4 h => ⟨_, rfl, sq (ρ1 := [.fz (eLine v_line), zQ xv4, zL z1.1, zQ z1.2.1, zI z1.2.2.1, .fz (D.str z1.2.2.2), .un]) (sDrop (mfz (cN (x1 (vf 1 rfl) (x1 rfl x0)) rfl rfl (e_ask_fraction (v_one := xv4) (v_above_nought := true) h :) rfl))) (sq (sKill (show _ = [.fz (eLine v_line), .un, zL z1.1, zQ z1.2.1, zI z1.2.2.1, .fz (D.str z1.2.2.2), .un] from rfl)) rfl)⟩)) (bdh h.2 (fun h => sq (ρ1 := [.fz (eLine v_line), .un, zL z1.1, zQ z1.2.1, zI z1.2.2.1, .fz (D.str z1.2.2.2), .un]) (forN (F := (eT2 fq fq)) (ctx := fun (z5 : Unit) => [.fz (eLine v_line), .un, zL z1.1, zQ z1.2.1, zI z1.2.2.1, .fz (D.str z1.2.2.2), .un]) (i_zip (F := fq) (G := fq) (a1 (mfz (slL (F := fq) (vf 2 rfl) pt0 (pt1 (u1 rfl rfl)))) (a1 (mfz (slL (F := fq) (vf 2 rfl) (pt1 rfl) pt0)) a0))) h.1 (fun z5 xv6 h => ⟨_, rfl, sq (ρ1 := [.fz (eLine v_line), zQ xv6.1, zL z1.1, zQ z1.2.1, zI z1.2.2.1, .fz (D.str z1.2.2.2), zQ xv6.2]) (sDrop (mfz (cN (x1 (ntV (mfz (cN (x1 (vf 6 rfl) (x1 (vf 1 rfl) x0)) rfl rfl (Std.e_is_less (p := xv6.2) (q := xv6.1) h.1 :) rfl))) (x1 rfl x0)) rfl rfl (e_ask (v_good := (!(decide (xv6.2 < xv6.1)))) (v_words := ("speeds never fall" : Str)) h.2 :) rfl))) (sq (sKill (show _ = [.fz (eLine v_line), .un, zL z1.1, zQ z1.2.1, zI z1.2.2.1, .fz (D.str z1.2.2.2), .un] from rfl)) rfl)⟩)) (bdh h.2 (fun h => sq (ρ1 := [.fz (eLine v_line), .un, zL z1.1, zQ z1.2.1, zI z1.2.2.1, .fz (D.str z1.2.2.2), .un]) (sDrop (mfz (cN (x1 (vf 3 rfl) (x1 rfl x0)) rfl rfl (e_ask_fraction (v_one := z1.2.1) (v_above_nought := false) h.1 :) rfl))) (bdh h.2 (fun h => sq (ρ1 := [.fz (eLine v_line), .un, zL z1.1, zQ z1.2.1, zI z1.2.2.1, .fz (D.str z1.2.2.2), .un]) (sDrop (mfz (cN (x1 (chn rfl (vf 4 rfl) rfl (fun hc7 => rfl) (fun _ => rfl)) (x1 rfl x0)) rfl rfl (e_ask (v_good := ((decide ((0 : Int) ≤ z1.2.2.1)) && (decide (z1.2.2.1 ≤ (9 : Int))))) (v_words := ("a room is 0 to 9" : Str)) h.1 :) rfl))) (bdh h.2 (fun h => sq (ρ1 := [.fz (eLine v_line), .un, zL z1.1, zQ z1.2.1, zI z1.2.2.1, .fz (D.str z1.2.2.2), .un]) (ifJ (ctx := fun (z8 : Unit) => [.fz (eLine v_line), .un, zL z1.1, zQ z1.2.1, zI z1.2.2.1, .fz (D.str z1.2.2.2), .un]) (v := ()) (w := ()) (tst (b2 (vf 4 rfl) rfl dEq_i)) (fun hc => (bdh (h.1 hc) (fun h => jnE (ctx := fun (z8 : Unit) => [.fz (eLine v_line), .un, zL z1.1, zQ z1.2.1, zI z1.2.2.1, .fz (D.str z1.2.2.2), .un]) (s := ()) (sq (ρ1 := [.fz (eLine v_line), .un, zL z1.1, zQ z1.2.1, zI z1.2.2.1, .fz (D.str z1.2.2.2), .un]) (sDrop (mfz (cN (x1 (b2 (vf 5 rfl) rfl dEq_s) (x1 rfl x0)) rfl rfl (e_ask (v_good := (decide (z1.2.2.2 = ("" : Str)))) (v_words := ("no rule without a room" : Str)) h :) rfl))) rfl)))) (fun hc => (bdh (h.2 hc) (fun h => jnE (ctx := fun (z8 : Unit) => [.fz (eLine v_line), .un, zL z1.1, zQ z1.2.1, zI z1.2.2.1, .fz (D.str z1.2.2.2), .un]) (s := ()) (sq (ρ1 := [.fz (eLine v_line), .un, zL z1.1, zQ z1.2.1, zI z1.2.2.1, .fz (D.str z1.2.2.2), .un]) (sDrop (mfz (cN (x1 (b2 (vf 5 rfl) rfl (o_inSV (x := z1.2.2.2) (ys := [("stay" : Str), ("lose" : Str), ("skip" : Str)]))) (x1 rfl x0)) rfl rfl (e_ask (v_good := (decide (z1.2.2.2 ∈ [("stay" : Str), ("lose" : Str), ("skip" : Str)]))) (v_words := ("a rule is stay, lose or skip" : Str)) h :) rfl))) rfl))))) (⟨_, rfl⟩))))))))))))
noncomputable def fb_ask_stand : M Fl :=
  mSeq (mAsg (gT 3 (gsC (gN 4) (gsC (gN 5) (gsC (gN 6) gsN)))) (mVar 0))
    (mSeq (mDrop (mFz (mCallN 2 none fn_ask (xV (mChain dLe dLt (M.pure (.int 0)) (mVar 4) (mVar 1)) (xV (M.pure (.str "a line that's there")) xNil)))))
    (mSeq (mDrop (mFz (mCallN 2 none fn_ask_fraction (xV (mVar 5) (xV (M.pure (.bl true)) xNil)))))
    (mSeq (mSet 3 (mOf (mUn dNeg (M.pure (.int 1)))))
    (mSeq (mFor (mIter (mVar 6)) (gT 2 (gsC (gN 7) (gsC (gN 8) gsN))) (mSeq (mDrop (mFz (mCallN 2 none fn_ask (xV (mChain dLt dLt (mVar 3) (mVar 7) (mVar 2)) (xV (M.pure (.str "ways to stands, rising")) xNil)))))
    (mSeq (mDrop (mFz (mCallN 2 none fn_ask_fraction (xV (mVar 8) (xV (M.pure (.bl true)) xNil)))))
    (mSeq (mSet 3 (mOf (mVar 7)))
    (mSeq (mKill [7, 8]) mNx)))))
    (mSeq (mDrop (mFz (mCallN 2 none fn_ask (xV (mNotV (mFz (mCallN 2 none Std.fn_is_less (xV (M.pure (.tup [(.int 1), (.int 1)])) (xV (mFz (mCallN 1 none Std.fn_total (xV (mFz (mLc [7, 8] (mIter (mVar 6)) (gT 2 (gsC (gN 7) (gsC (gN 8) gsN))) (M.pure true) (mVar 8))) xNil))) xNil))))) (xV (M.pure (.str "shares come to one at most")) xNil)))))
    mNx)))))
noncomputable def fn_ask_stand : List D → Rf := runF none 9 fb_ask_stand
noncomputable def t_ask_stand (v_stand : Stand) (v_lines : Int) (v_many : Int) : Unit :=
  bd v_stand (fun (z1 : Stand) => bd (-(1 : Int)) (fun (v_last_3 : Int) => bd (z1.2.2.foldl (fun (z4 : Int) (xv5 : Way) => bd xv5.1 (fun (v_last_7 : Int) => v_last_7)) v_last_3) (fun (z8 : Int) => ())))
def s_ask_stand (v_stand : Stand) (v_lines : Int) (v_many : Int) : Prop :=
  bd v_stand (fun (z1 : Stand) => ((s_ask (((decide ((0 : Int) ≤ z1.1)) && (decide (z1.1 < v_lines)))) (("a line that's there" : Str))) ∧ (((s_ask_fraction z1.2.1 true) ∧ (bd (-(1 : Int)) (fun (v_last_3 : Int) => ((sfl (fun (z4 : Int) (xv5 : Way) => bd xv5.1 (fun (v_last_7 : Int) => v_last_7)) (fun (z4 : Int) (xv5 : Way) => ((s_ask (((decide (z4 < xv5.1)) && (decide (xv5.1 < v_many)))) (("ways to stands, rising" : Str))) ∧ ((s_ask_fraction xv5.2 true)))) z1.2.2 v_last_3) ∧ (bd (z1.2.2.foldl (fun (z4 : Int) (xv5 : Way) => bd xv5.1 (fun (v_last_7 : Int) => v_last_7)) v_last_3) (fun (z8 : Int) => ((z1.2.2.length ≤ 10000) ∧ (Std.tsz ((z1.2.2.map (fun (xv9 : Way) => xv9.2))) ≤ 80000000) ∧ (Std.SQ ((1 : Rat)) ((Std.sumQ ((z1.2.2.map (fun (xv9 : Way) => xv9.2)))))) ∧ (s_ask ((!(decide ((1 : Rat) < (Std.sumQ ((z1.2.2.map (fun (xv9 : Way) => xv9.2)))))))) (("shares come to one at most" : Str)))))))))))))
theorem e_ask_stand {v_stand : Stand} {v_lines : Int} {v_many : Int} (h : s_ask_stand v_stand v_lines v_many) : fn_ask_stand [eStand v_stand, D.int v_lines, D.int v_many] = .ok (eN (t_ask_stand v_stand v_lines v_many)) .ff .non := by
  refine runE (fb := fb_ask_stand) (x := t_ask_stand v_stand v_lines v_many) ?_
  show JE (fb_ask_stand [.fz (eStand v_stand), zI v_lines, zI v_many, .un, .un, .un, .un, .un, .un]) _
  delta fb_ask_stand t_ask_stand
  delta s_ask_stand at h
  exact sqB (ctx := fun (z1 : Stand) => [.fz (eStand v_stand), zI v_lines, zI v_many, .un, zI z1.1, zQ z1.2.1, .fz ((eL eWay) z1.2.2), .un, .un]) (sAsg (vf 0 rfl) rfl) h (fun z1 h => sq (ρ1 := [.fz (eStand v_stand), zI v_lines, zI v_many, .un, zI z1.1, zQ z1.2.1, .fz ((eL eWay) z1.2.2), .un, .un]) (sDrop (mfz (cN (x1 (chn rfl (vf 4 rfl) rfl (fun hc2 => vf 1 rfl) (fun _ => rfl)) (x1 rfl x0)) rfl rfl (e_ask (v_good := ((decide ((0 : Int) ≤ z1.1)) && (decide (z1.1 < v_lines)))) (v_words := ("a line that's there" : Str)) h.1 :) rfl))) (bdh h.2 (fun h => sq (ρ1 := [.fz (eStand v_stand), zI v_lines, zI v_many, .un, zI z1.1, zQ z1.2.1, .fz ((eL eWay) z1.2.2), .un, .un]) (sDrop (mfz (cN (x1 (vf 5 rfl) (x1 rfl x0)) rfl rfl (e_ask_fraction (v_one := z1.2.1) (v_above_nought := true) h.1 :) rfl))) (bdh h.2 (fun h => sqB (ctx := fun (v_last_3 : Int) => [.fz (eStand v_stand), zI v_lines, zI v_many, zI v_last_3, zI z1.1, zQ z1.2.1, .fz ((eL eWay) z1.2.2), .un, .un]) (sSet (mof (u1 rfl rfl)) rfl) h (fun v_last_3 h => sqB (ctx := fun (z8 : Int) => [.fz (eStand v_stand), zI v_lines, zI v_many, zI z8, zI z1.1, zQ z1.2.1, .fz ((eL eWay) z1.2.2), .un, .un]) (forN (F := eWay) (ctx := fun (z4 : Int) => [.fz (eStand v_stand), zI v_lines, zI v_many, zI z4, zI z1.1, zQ z1.2.1, .fz ((eL eWay) z1.2.2), .un, .un]) (i_L (F := eWay) (vf 6 rfl)) h.1 (fun z4 xv5 h => ⟨_, rfl, sq (ρ1 := [.fz (eStand v_stand), zI v_lines, zI v_many, zI z4, zI z1.1, zQ z1.2.1, .fz ((eL eWay) z1.2.2), zI xv5.1, zQ xv5.2]) (sDrop (mfz (cN (x1 (chn (vf 3 rfl) (vf 7 rfl) rfl (fun hc6 => vf 2 rfl) (fun _ => rfl)) (x1 rfl x0)) rfl rfl (e_ask (v_good := ((decide (z4 < xv5.1)) && (decide (xv5.1 < v_many)))) (v_words := ("ways to stands, rising" : Str)) h.1 :) rfl))) (bdh h.2 (fun h => sq (ρ1 := [.fz (eStand v_stand), zI v_lines, zI v_many, zI z4, zI z1.1, zQ z1.2.1, .fz ((eL eWay) z1.2.2), zI xv5.1, zQ xv5.2]) (sDrop (mfz (cN (x1 (vf 8 rfl) (x1 rfl x0)) rfl rfl (e_ask_fraction (v_one := xv5.2) (v_above_nought := true) h :) rfl))) (sqB (ctx := fun (v_last_7 : Int) => [.fz (eStand v_stand), zI v_lines, zI v_many, zI v_last_7, zI z1.1, zQ z1.2.1, .fz ((eL eWay) z1.2.2), zI xv5.1, zQ xv5.2]) (S := fun _ => True) (sSet (mof (vf 7 rfl)) rfl) trivial (fun v_last_7 _ => sq (sKill (show _ = [.fz (eStand v_stand), zI v_lines, zI v_many, zI v_last_7, zI z1.1, zQ z1.2.1, .fz ((eL eWay) z1.2.2), .un, .un] from rfl)) rfl))))⟩)) h.2 (fun z8 h => sq (ρ1 := [.fz (eStand v_stand), zI v_lines, zI v_many, zI z8, zI z1.1, zQ z1.2.1, .fz ((eL eWay) z1.2.2), .un, .un]) (sDrop (mfz (cN (x1 (ntV (mfz (cN (x1 rfl (x1 (mfz (cN (x1 (mfz (lcM (F := eWay) (G := fq) (φ := fun (xv9 : Way) => xv9.2) (ρ1 := [.fz (eStand v_stand), zI v_lines, zI v_many, zI z8, zI z1.1, zQ z1.2.1, .fz ((eL eWay) z1.2.2), .un, .un]) (i_L (F := eWay) (vf 6 rfl)) rfl (fun xv9 hx10 => ⟨_, rfl, rfl, _, vf 8 rfl, rfl⟩) h.1 rfl)) x0) rfl rfl (Std.e_total (xs := (z1.2.2.map (fun (xv9 : Way) => xv9.2))) h.2.1 :) rfl)) x0)) rfl rfl (Std.e_is_less (p := (1 : Rat)) (q := (Std.sumQ ((z1.2.2.map (fun (xv9 : Way) => xv9.2))))) h.2.2.1 :) rfl))) (x1 rfl x0)) rfl rfl (e_ask (v_good := (!(decide ((1 : Rat) < (Std.sumQ ((z1.2.2.map (fun (xv9 : Way) => xv9.2)))))))) (v_words := ("shares come to one at most" : Str)) h.2.2.2 :) rfl))) (⟨_, rfl⟩))))))))
noncomputable def fb_ask_rates : M Fl :=
  mSeq (mFor (mIter (mVar 1)) (gN 2) (mSeq (mDrop (mFz (mCallN 2 none fn_ask_fraction (xV (mVar 2) (xV (M.pure (.bl false)) xNil)))))
    (mSeq (mKill [2]) mNx)))
    (mSeq (mDrop (mFz (mCallN 2 none fn_ask (xV (mBin dNe (mFz (mLc [2] (mIter (mVar 1)) (gN 2) (mTest (mBin dNe (mVar 2) (M.pure (.tup [(.int 0), (.int 1)])))) (mVar 2))) (mFz (mLst mNil))) (xV (M.pure (.str "somebody comes")) xNil)))))
    (mSeq (mSet 3 (mLc [4] (mIter (mVar 0)) (gN 4) (M.pure true) (mBin dIx (mVar 4) (M.pure (.int 2)))))
    (mSeq (mFrz 3)
    (mSeq (mIf (mTest (mBin dEq (mCall dMaxL (mCons (mVar 3) mNil)) (M.pure (.int 0)))) (mSeq (mDrop (mFz (mCallN 2 none fn_ask (xV (mBin dEq (mFz (mLc [4] (mIter (mVar 0)) (gN 4) (mTest (mBin dNe (mBin dIx (mVar 4) (M.pure (.int 1))) (M.pure (.tup [(.int 0), (.int 1)])))) (mVar 4))) (mFz (mLst mNil))) (xV (M.pure (.str "hands that are no more behind the last speed")) xNil)))))
    mNx) (mSeq (mDrop (mFz (mCallN 2 none fn_ask (xV (mBin dGt (mCall dMinL (mCons (mVar 3) mNil)) (M.pure (.int 0))) (xV (M.pure (.str "each line has a room, or none")) xNil)))))
    mNx))
    mNx))))
noncomputable def fn_ask_rates : List D → Rf := runF none 5 fb_ask_rates
noncomputable def t_ask_rates (v_lines : (List Line)) (v_rates : (List Rat)) : Unit :=
  bd (v_lines.map (fun (xv6 : Line) => xv6.2.2.1)) (fun (v_rooms_9 : (List Int)) => ())
def s_ask_rates (v_lines : (List Line)) (v_rates : (List Rat)) : Prop :=
  ((sfl (fun (z1 : Unit) (xv2 : Rat) => ()) (fun (z1 : Unit) (xv2 : Rat) => (s_ask_fraction xv2 false)) v_rates ()) ∧ (((v_rates.length ≤ 10000) ∧ (s_ask ((!decide (((v_rates.filter (fun (xv3 : Rat) => (!decide (xv3 = (0 : Rat))))).map (fun (xv3 : Rat) => xv3)) = ([] : List Rat)))) (("somebody comes" : Str))) ∧ (((v_lines.length ≤ 10000) ∧ (bd (v_lines.map (fun (xv6 : Line) => xv6.2.2.1)) (fun (v_rooms_9 : (List Int)) => ((v_rooms_9 ≠ []) ∧ ((decide ((maxL v_rooms_9) = (0 : Int))) = true → ((v_lines.length ≤ 10000) ∧ (OkE (eL eLine) (((v_lines.filter (fun (xv13 : Line) => (!decide (xv13.2.1 = (0 : Rat))))).map (fun (xv13 : Line) => xv13)))) ∧ (OkE (eL eLine) (([] : List Line))) ∧ (s_ask ((decide (((v_lines.filter (fun (xv13 : Line) => (!decide (xv13.2.1 = (0 : Rat))))).map (fun (xv13 : Line) => xv13)) = ([] : List Line)))) (("hands that are no more behind the last speed" : Str))))) ∧ ((decide ((maxL v_rooms_9) = (0 : Int))) = false → ((v_rooms_9 ≠ []) ∧ (s_ask ((decide ((0 : Int) < (minL v_rooms_9)))) (("each line has a room, or none" : Str)))))))))))))
theorem e_ask_rates {v_lines : (List Line)} {v_rates : (List Rat)} (h : s_ask_rates v_lines v_rates) : fn_ask_rates [(eL eLine) v_lines, (eL fq) v_rates] = .ok (eN (t_ask_rates v_lines v_rates)) .ff .non := by
  refine runE (fb := fb_ask_rates) (x := t_ask_rates v_lines v_rates) ?_
  show JE (fb_ask_rates [.fz ((eL eLine) v_lines), zL v_rates, .un, .un, .un]) _
  delta fb_ask_rates t_ask_rates
  delta s_ask_rates at h
  exact sq (ρ1 := [.fz ((eL eLine) v_lines), zL v_rates, .un, .un, .un]) (forN (F := fq) (ctx := fun (z1 : Unit) => [.fz ((eL eLine) v_lines), zL v_rates, .un, .un, .un]) (i_L (F := fq) (vf 1 rfl)) h.1 (fun z1 xv2 h => ⟨_, rfl, sq (ρ1 := [.fz ((eL eLine) v_lines), zL v_rates, zQ xv2, .un, .un]) (sDrop (mfz (cN (x1 (vf 2 rfl) (x1 rfl x0)) rfl rfl (e_ask_fraction (v_one := xv2) (v_above_nought := false) h :) rfl))) (sq (sKill (show _ = [.fz ((eL eLine) v_lines), zL v_rates, .un, .un, .un] from rfl)) rfl)⟩)) (bdh h.2 (fun h => sq (ρ1 := [.fz ((eL eLine) v_lines), zL v_rates, .un, .un, .un]) (sDrop (mfz (cN (x1 (b2 (mfz (lcP (F := fq) (G := fq) (p := fun (xv3 : Rat) => (!decide (xv3 = (0 : Rat)))) (φ := fun (xv3 : Rat) => xv3) (ρ1 := [.fz ((eL eLine) v_lines), zL v_rates, .un, .un, .un]) (i_L (F := fq) (vf 1 rfl)) rfl (fun xv3 hx4 => ⟨_, rfl, tst (b2 (vf 2 rfl) rfl ((o_ne (F := fq) (x := xv3) (y := (0 : Rat)) gQ))), rfl, fun hc5 => ⟨_, vf 2 rfl, rfl⟩⟩) h.1 rfl)) (mfz (mlst a0)) ((o_ne (F := (eL fq)) (x := ((v_rates.filter (fun (xv3 : Rat) => (!decide (xv3 = (0 : Rat))))).map (fun (xv3 : Rat) => xv3))) (y := ([] : List Rat)) (gL gQ)))) (x1 rfl x0)) rfl rfl (e_ask (v_good := (!decide (((v_rates.filter (fun (xv3 : Rat) => (!decide (xv3 = (0 : Rat))))).map (fun (xv3 : Rat) => xv3)) = ([] : List Rat)))) (v_words := ("somebody comes" : Str)) h.2.1 :) rfl))) (bdh h.2.2 (fun h => sqB (ctx := fun (v_rooms_9 : (List Int)) => [.fz ((eL eLine) v_lines), zL v_rates, .un, .ow ((eL D.int) v_rooms_9), .un]) (sSetO (lcM (F := eLine) (G := D.int) (φ := fun (xv6 : Line) => xv6.2.2.1) (ρ1 := [.fz ((eL eLine) v_lines), zL v_rates, .un, .un, .un]) (i_L (F := eLine) (vf 0 rfl)) rfl (fun xv6 hx7 => ⟨_, rfl, rfl, _, b2 (vf 4 rfl) rfl rfl, rfl⟩) h.1 rfl) rfl) h.2 (fun v_rooms_9 h => sq (sFrz (i := 3) rfl (show _ = [.fz ((eL eLine) v_lines), zL v_rates, .un, zJ v_rooms_9, .un] from rfl)) (sq (ρ1 := [.fz ((eL eLine) v_lines), zL v_rates, .un, zJ v_rooms_9, .un]) (ifJ (ctx := fun (z16 : Unit) => [.fz ((eL eLine) v_lines), zL v_rates, .un, zJ v_rooms_9, .un]) (v := ()) (w := ()) (tst (b2 (c1 (a1 (vf 3 rfl) a0) (o_maxL h.1)) rfl dEq_i)) (fun hc => (bdh (h.2.1 hc) (fun h => jnE (ctx := fun (z16 : Unit) => [.fz ((eL eLine) v_lines), zL v_rates, .un, zJ v_rooms_9, .un]) (s := ()) (sq (ρ1 := [.fz ((eL eLine) v_lines), zL v_rates, .un, zJ v_rooms_9, .un]) (sDrop (mfz (cN (x1 (b2 (mfz (lcP (F := eLine) (G := eLine) (p := fun (xv13 : Line) => (!decide (xv13.2.1 = (0 : Rat)))) (φ := fun (xv13 : Line) => xv13) (ρ1 := [.fz ((eL eLine) v_lines), zL v_rates, .un, zJ v_rooms_9, .un]) (i_L (F := eLine) (vf 0 rfl)) rfl (fun xv13 hx14 => ⟨_, rfl, tst (b2 (b2 (vf 4 rfl) rfl rfl) rfl ((o_ne (F := fq) (x := xv13.2.1) (y := (0 : Rat)) gQ))), rfl, fun hc15 => ⟨_, vf 4 rfl, rfl⟩⟩) h.1 rfl)) (mfz (mlst a0)) ((o_eqx (F := (eL eLine)) (x := ((v_lines.filter (fun (xv13 : Line) => (!decide (xv13.2.1 = (0 : Rat))))).map (fun (xv13 : Line) => xv13))) (y := ([] : List Line)) (xL xLine) h.2.1 h.2.2.1))) (x1 rfl x0)) rfl rfl (e_ask (v_good := (decide (((v_lines.filter (fun (xv13 : Line) => (!decide (xv13.2.1 = (0 : Rat))))).map (fun (xv13 : Line) => xv13)) = ([] : List Line)))) (v_words := ("hands that are no more behind the last speed" : Str)) h.2.2.2 :) rfl))) rfl)))) (fun hc => (bdh (h.2.2 hc) (fun h => jnE (ctx := fun (z16 : Unit) => [.fz ((eL eLine) v_lines), zL v_rates, .un, zJ v_rooms_9, .un]) (s := ()) (sq (ρ1 := [.fz ((eL eLine) v_lines), zL v_rates, .un, zJ v_rooms_9, .un]) (sDrop (mfz (cN (x1 (b2 (c1 (a1 (vf 3 rfl) a0) (o_minL h.1)) rfl rfl) (x1 rfl x0)) rfl rfl (e_ask (v_good := (decide ((0 : Int) < (minL v_rooms_9)))) (v_words := ("each line has a room, or none" : Str)) h.2 :) rfl))) rfl))))) (⟨_, rfl⟩)))))))
noncomputable def fb_ask_counts : M Fl :=
  mSeq (mDrop (mFz (mCallN 2 none fn_ask (xV (mAndV (mBin dGe (mCall dMinL (mCons (mVar 2) mNil)) (M.pure (.int 0))) (mChain dLe dLe (M.pure (.int 1)) (mCall dSum (mCons (mVar 2) mNil)) (M.pure (.int 8)))) (xV (M.pure (.str "one to eight comers")) xNil)))))
    (mSeq (mDrop (mFz (mCallN 2 none fn_ask (xV (mBin dEq (mFz (mLc [5] (mIter (mVar 0)) (gN 5) (mTest (mBin dEq (mBin dIx (mVar 5) (M.pure (.int 3))) (M.pure (.str "lose")))) (mVar 5))) (mFz (mLst mNil))) (xV (M.pure (.str "nobody is lost")) xNil)))))
    (mSeq (mFor (mIter (mVar 1)) (gN 3) (mSeq (mDrop (mFz (mCallN 2 none fn_ask (xV (mBin dEq (mFz (mCallN 1 none Std.fn_total (xV (mFz (mLc [8, 9] (mIter (mBin dIx (mVar 3) (M.pure (.int 2)))) (gT 2 (gsC (gN 8) (gsC (gN 9) gsN))) (M.pure true) (mVar 9))) xNil))) (M.pure (.tup [(.int 1), (.int 1)]))) (xV (M.pure (.str "nobody leaves")) xNil)))))
    (mSeq (mKill [3]) mNx)))
    (mSeq (mFor (mEnum (mCons (mVar 0) mNil)) (gT 2 (gsC (gN 4) (gsC (gN 5) gsN))) (mSeq (mSet 6 (mOf (mCall dSum (mCons (mFz (mLc [7, 3] (mZip (mCons (mVar 2) (mCons (mVar 1) mNil))) (gT 2 (gsC (gN 7) (gsC (gN 3) gsN))) (mTest (mBin dEq (mBin dIx (mVar 3) (M.pure (.int 0))) (mVar 4))) (mVar 7))) mNil))))
    (mSeq (mDrop (mFz (mCallN 2 none fn_ask (xV (mOrV (mBin dEq (mBin dIx (mVar 5) (M.pure (.int 2))) (M.pure (.int 0))) (mBin dLe (mVar 6) (mBin dIx (mVar 5) (M.pure (.int 2))))) (xV (M.pure (.str "no more begin than there is room")) xNil)))))
    (mSeq (mKill [4, 5, 6]) mNx))))
    mNx)))
noncomputable def fn_ask_counts : List D → Rf := runF none 10 fb_ask_counts
noncomputable def t_ask_counts (v_lines : (List Line)) (v_stands : (List Stand)) (v_counts : (List Int)) : Unit :=
  ()
def s_ask_counts (v_lines : (List Line)) (v_stands : (List Stand)) (v_counts : (List Int)) : Prop :=
  ((v_counts ≠ []) ∧ (s_ask (((decide ((0 : Int) ≤ (minL v_counts))) && ((decide ((1 : Int) ≤ v_counts.sum)) && (decide (v_counts.sum ≤ (8 : Int)))))) (("one to eight comers" : Str))) ∧ (((v_lines.length ≤ 10000) ∧ (OkE (eL eLine) (((v_lines.filter (fun (xv3 : Line) => (decide (xv3.2.2.2 = ("lose" : Str))))).map (fun (xv3 : Line) => xv3)))) ∧ (OkE (eL eLine) (([] : List Line))) ∧ (s_ask ((decide (((v_lines.filter (fun (xv3 : Line) => (decide (xv3.2.2.2 = ("lose" : Str))))).map (fun (xv3 : Line) => xv3)) = ([] : List Line)))) (("nobody is lost" : Str))) ∧ (((sfl (fun (z6 : Unit) (xv7 : Stand) => ()) (fun (z6 : Unit) (xv7 : Stand) => ((xv7.2.2.length ≤ 10000) ∧ (Std.tsz ((xv7.2.2.map (fun (xv8 : Way) => xv8.2))) ≤ 80000000) ∧ (s_ask ((decide ((Std.sumQ ((xv7.2.2.map (fun (xv8 : Way) => xv8.2)))) = (1 : Rat)))) (("nobody leaves" : Str))))) v_stands ()) ∧ ((sfl (fun (z11 : Unit) (xv12 : (Int × Line)) => bd (((((v_counts.zip v_stands).filter (fun (xv13 : (Int × Stand)) => (decide (xv13.2.1 = xv12.1)))).map (fun (xv13 : (Int × Stand)) => xv13.1))).sum) (fun (v_many_16 : Int) => ())) (fun (z11 : Unit) (xv12 : (Int × Line)) => ((((v_counts.zip v_stands)).length ≤ 10000) ∧ (bd (((((v_counts.zip v_stands).filter (fun (xv13 : (Int × Stand)) => (decide (xv13.2.1 = xv12.1)))).map (fun (xv13 : (Int × Stand)) => xv13.1))).sum) (fun (v_many_16 : Int) => (s_ask (((decide (xv12.2.2.2.1 = (0 : Int))) || (decide (v_many_16 ≤ xv12.2.2.2.1)))) (("no more begin than there is room" : Str))))))) (enumI v_lines) ())))))))
theorem e_ask_counts {v_lines : (List Line)} {v_stands : (List Stand)} {v_counts : (List Int)} (h : s_ask_counts v_lines v_stands v_counts) : fn_ask_counts [(eL eLine) v_lines, (eL eStand) v_stands, (eL D.int) v_counts] = .ok (eN (t_ask_counts v_lines v_stands v_counts)) .ff .non := by
  refine runE (fb := fb_ask_counts) (x := t_ask_counts v_lines v_stands v_counts) ?_
  show JE (fb_ask_counts [.fz ((eL eLine) v_lines), .fz ((eL eStand) v_stands), zJ v_counts, .un, .un, .un, .un, .un, .un, .un]) _
  delta fb_ask_counts t_ask_counts
  delta s_ask_counts at h
  exact sq (ρ1 := [.fz ((eL eLine) v_lines), .fz ((eL eStand) v_stands), zJ v_counts, .un, .un, .un, .un, .un, .un, .un]) (sDrop (mfz (cN (x1 (anV (b2 (c1 (a1 (vf 2 rfl) a0) (o_minL h.1)) rfl rfl) (fun hc2 => chn rfl (c1 (a1 (vf 2 rfl) a0) o_sum) rfl (fun hc1 => rfl) (fun _ => rfl))) (x1 rfl x0)) rfl rfl (e_ask (v_good := ((decide ((0 : Int) ≤ (minL v_counts))) && ((decide ((1 : Int) ≤ v_counts.sum)) && (decide (v_counts.sum ≤ (8 : Int)))))) (v_words := ("one to eight comers" : Str)) h.2.1 :) rfl))) (bdh h.2.2 (fun h => sq (ρ1 := [.fz ((eL eLine) v_lines), .fz ((eL eStand) v_stands), zJ v_counts, .un, .un, .un, .un, .un, .un, .un]) (sDrop (mfz (cN (x1 (b2 (mfz (lcP (F := eLine) (G := eLine) (p := fun (xv3 : Line) => (decide (xv3.2.2.2 = ("lose" : Str)))) (φ := fun (xv3 : Line) => xv3) (ρ1 := [.fz ((eL eLine) v_lines), .fz ((eL eStand) v_stands), zJ v_counts, .un, .un, .un, .un, .un, .un, .un]) (i_L (F := eLine) (vf 0 rfl)) rfl (fun xv3 hx4 => ⟨_, rfl, tst (b2 (b2 (vf 5 rfl) rfl rfl) rfl dEq_s), rfl, fun hc5 => ⟨_, vf 5 rfl, rfl⟩⟩) h.1 rfl)) (mfz (mlst a0)) ((o_eqx (F := (eL eLine)) (x := ((v_lines.filter (fun (xv3 : Line) => (decide (xv3.2.2.2 = ("lose" : Str))))).map (fun (xv3 : Line) => xv3))) (y := ([] : List Line)) (xL xLine) h.2.1 h.2.2.1))) (x1 rfl x0)) rfl rfl (e_ask (v_good := (decide (((v_lines.filter (fun (xv3 : Line) => (decide (xv3.2.2.2 = ("lose" : Str))))).map (fun (xv3 : Line) => xv3)) = ([] : List Line)))) (v_words := ("nobody is lost" : Str)) h.2.2.2.1 :) rfl))) (bdh h.2.2.2.2 (fun h => sq (ρ1 := [.fz ((eL eLine) v_lines), .fz ((eL eStand) v_stands), zJ v_counts, .un, .un, .un, .un, .un, .un, .un]) (forN (F := eStand) (ctx := fun (z6 : Unit) => [.fz ((eL eLine) v_lines), .fz ((eL eStand) v_stands), zJ v_counts, .un, .un, .un, .un, .un, .un, .un]) (i_L (F := eStand) (vf 1 rfl)) h.1 (fun z6 xv7 h => ⟨_, rfl, sq (ρ1 := [.fz ((eL eLine) v_lines), .fz ((eL eStand) v_stands), zJ v_counts, .fz (eStand xv7), .un, .un, .un, .un, .un, .un]) (sDrop (mfz (cN (x1 (b2 (mfz (cN (x1 (mfz (lcM (F := eWay) (G := fq) (φ := fun (xv8 : Way) => xv8.2) (ρ1 := [.fz ((eL eLine) v_lines), .fz ((eL eStand) v_stands), zJ v_counts, .fz (eStand xv7), .un, .un, .un, .un, .un, .un]) (i_L (F := eWay) (b2 (vf 3 rfl) rfl rfl)) rfl (fun xv8 hx9 => ⟨_, rfl, rfl, _, vf 9 rfl, rfl⟩) h.1 rfl)) x0) rfl rfl (Std.e_total (xs := (xv7.2.2.map (fun (xv8 : Way) => xv8.2))) h.2.1 :) rfl)) rfl ((o_eq (F := fq) (x := (Std.sumQ ((xv7.2.2.map (fun (xv8 : Way) => xv8.2))))) (y := (1 : Rat)) gQ))) (x1 rfl x0)) rfl rfl (e_ask (v_good := (decide ((Std.sumQ ((xv7.2.2.map (fun (xv8 : Way) => xv8.2)))) = (1 : Rat)))) (v_words := ("nobody leaves" : Str)) h.2.2 :) rfl))) (sq (sKill (show _ = [.fz ((eL eLine) v_lines), .fz ((eL eStand) v_stands), zJ v_counts, .un, .un, .un, .un, .un, .un, .un] from rfl)) rfl)⟩)) (bdh h.2 (fun h => sq (ρ1 := [.fz ((eL eLine) v_lines), .fz ((eL eStand) v_stands), zJ v_counts, .un, .un, .un, .un, .un, .un, .un]) (forN (F := (eT2 D.int eLine)) (ctx := fun (z11 : Unit) => [.fz ((eL eLine) v_lines), .fz ((eL eStand) v_stands), zJ v_counts, .un, .un, .un, .un, .un, .un, .un]) (i_enum (F := eLine) (a1 (vf 0 rfl) a0)) h (fun z11 xv12 h => ⟨_, rfl, sqB (ctx := fun (v_many_16 : Int) => [.fz ((eL eLine) v_lines), .fz ((eL eStand) v_stands), zJ v_counts, .un, zI xv12.1, .fz (eLine xv12.2), zI v_many_16, .un, .un, .un]) (sSet (mof (c1 (a1 (mfz (lcP (F := (eT2 D.int eStand)) (G := D.int) (p := fun (xv13 : (Int × Stand)) => (decide (xv13.2.1 = xv12.1))) (φ := fun (xv13 : (Int × Stand)) => xv13.1) (ρ1 := [.fz ((eL eLine) v_lines), .fz ((eL eStand) v_stands), zJ v_counts, .un, zI xv12.1, .fz (eLine xv12.2), .un, .un, .un, .un]) (i_zip (F := D.int) (G := eStand) (a1 (vf 2 rfl) (a1 (vf 1 rfl) a0))) rfl (fun xv13 hx14 => ⟨_, rfl, tst (b2 (b2 (vf 3 rfl) rfl rfl) (vf 4 rfl) dEq_i), rfl, fun hc15 => ⟨_, vf 7 rfl, rfl⟩⟩) h.1 rfl)) a0) o_sum)) rfl) h.2 (fun v_many_16 h => sq (ρ1 := [.fz ((eL eLine) v_lines), .fz ((eL eStand) v_stands), zJ v_counts, .un, zI xv12.1, .fz (eLine xv12.2), zI v_many_16, .un, .un, .un]) (sDrop (mfz (cN (x1 (orV (b2 (b2 (vf 5 rfl) rfl rfl) rfl dEq_i) (fun hc17 => b2 (vf 6 rfl) (b2 (vf 5 rfl) rfl rfl) rfl)) (x1 rfl x0)) rfl rfl (e_ask (v_good := ((decide (xv12.2.2.2.1 = (0 : Int))) || (decide (v_many_16 ≤ xv12.2.2.2.1)))) (v_words := ("no more begin than there is room" : Str)) h :) rfl))) (sq (sKill (show _ = [.fz ((eL eLine) v_lines), .fz ((eL eStand) v_stands), zJ v_counts, .un, .un, .un, .un, .un, .un, .un] from rfl)) rfl))⟩)) (⟨_, rfl⟩)))))))
noncomputable def fb_ask_net : M Fl :=
  mSeq (mDrop (mFz (mCallN 2 none fn_ask (xV (mAndV (mChain dLe dLe (M.pure (.int 1)) (mCall dLen (mCons (mVar 0) mNil)) (M.pure (.int 8))) (mChain dLe dLe (M.pure (.int 1)) (mCall dLen (mCons (mVar 1) mNil)) (M.pure (.int 12)))) (xV (M.pure (.str "lines and stands")) xNil)))))
    (mSeq (mFor (mIter (mVar 0)) (gN 3) (mSeq (mDrop (mFz (mCallN 1 none fn_ask_line (xV (mVar 3) xNil))))
    (mSeq (mKill [3]) mNx)))
    (mSeq (mFor (mIter (mVar 1)) (gN 4) (mSeq (mDrop (mFz (mCallN 3 none fn_ask_stand (xV (mVar 4) (xV (mCall dLen (mCons (mVar 0) mNil)) (xV (mCall dLen (mCons (mVar 1) mNil)) xNil))))))
    (mSeq (mKill [4]) mNx)))
    (mSeq (mSet 5 (mLc [4] (mIter (mVar 1)) (gN 4) (M.pure true) (mBin dIx (mVar 4) (M.pure (.int 0)))))
    (mSeq (mFrz 5)
    (mSeq (mDrop (mFz (mCallN 2 none fn_ask (xV (mBin dEq (mFz (mLc [3] (mRange1 (mCons (mCall dLen (mCons (mVar 0) mNil)) mNil)) (gN 3) (mTest (mBin (dIn true) (mVar 3) (mVar 5))) (mVar 3))) (mFz (mLst mNil))) (xV (M.pure (.str "each line has a stand")) xNil)))))
    (mSeq (mAsg (gT 2 (gsC (gN 6) (gsC (gN 7) gsN))) (mVar 2))
    (mSeq (mDrop (mFz (mCallN 2 none fn_ask (xV (mAndV (mBin (dIn false) (mVar 6) (mTup (mCons (M.pure (.str "open")) (mCons (M.pure (.str "shut")) mNil)))) (mBin dEq (mCall dLen (mCons (mVar 7) mNil)) (mCall dLen (mCons (mVar 1) mNil)))) (xV (M.pure (.str "open or shut, a number a stand")) xNil)))))
    (mSeq (mIf (mTest (mBin dEq (mVar 6) (M.pure (.str "open")))) (mSeq (mDrop (mFz (mCallN 2 none fn_ask_rates (xV (mVar 0) (xV (mVar 7) xNil)))))
    mNx) (mSeq (mDrop (mFz (mCallN 3 none fn_ask_counts (xV (mVar 0) (xV (mVar 1) (xV (mVar 7) xNil))))))
    mNx))
    mNx))))))))
noncomputable def fn_ask_net : List D → Rf := runF none 8 fb_ask_net
noncomputable def t_ask_net (v_lines : (List Line)) (v_stands : (List Stand)) (v_comers : (Str × Num)) : Unit :=
  bd (v_stands.map (fun (xv8 : Stand) => xv8.1)) (fun (v_used_11 : (List Int)) => bd v_comers (fun (z15 : (Str × Num)) => ()))
def s_ask_net (v_lines : (List Line)) (v_stands : (List Stand)) (v_comers : (Str × Num)) : Prop :=
  ((s_ask ((((decide ((1 : Int) ≤ (v_lines.length : Int))) && (decide ((v_lines.length : Int) ≤ (8 : Int)))) && ((decide ((1 : Int) ≤ (v_stands.length : Int))) && (decide ((v_stands.length : Int) ≤ (12 : Int)))))) (("lines and stands" : Str))) ∧ (((sfl (fun (z4 : Unit) (xv5 : Line) => ()) (fun (z4 : Unit) (xv5 : Line) => (s_ask_line xv5)) v_lines ()) ∧ (((sfl (fun (z6 : Unit) (xv7 : Stand) => ()) (fun (z6 : Unit) (xv7 : Stand) => (s_ask_stand xv7 ((v_lines.length : Int)) ((v_stands.length : Int)))) v_stands ()) ∧ (((v_stands.length ≤ 10000) ∧ (bd (v_stands.map (fun (xv8 : Stand) => xv8.1)) (fun (v_used_11 : (List Int)) => ((-100000000 < ((v_lines.length : Int)) ∧ ((v_lines.length : Int)) < 100000000) ∧ (((rangeI 0 ((v_lines.length : Int)))).length ≤ 10000) ∧ (s_ask ((decide ((((rangeI 0 ((v_lines.length : Int))).filter (fun (xv12 : Int) => (!decide (xv12 ∈ v_used_11)))).map (fun (xv12 : Int) => xv12)) = ([] : List Int)))) (("each line has a stand" : Str))) ∧ (bd v_comers (fun (z15 : (Str × Num)) => ((s_ask (((decide (z15.1 ∈ [("open" : Str), ("shut" : Str)])) && (decide (((numLen z15.2) : Int) = (v_stands.length : Int))))) (("open or shut, a number a stand" : Str))) ∧ ((((decide (z15.1 = ("open" : Str))) = true → ((z15.2.isLeft = true) ∧ (s_ask_rates v_lines ((numQ z15.2))))) ∧ ((decide (z15.1 = ("open" : Str))) = false → ((z15.2.isRight = true) ∧ (s_ask_counts v_lines v_stands ((numI z15.2))))))))))))))))))))
theorem e_ask_net {v_lines : (List Line)} {v_stands : (List Stand)} {v_comers : (Str × Num)} (h : s_ask_net v_lines v_stands v_comers) : fn_ask_net [(eL eLine) v_lines, (eL eStand) v_stands, (eT2 D.str eNum) v_comers] = .ok (eN (t_ask_net v_lines v_stands v_comers)) .ff .non := by
  refine runE (fb := fb_ask_net) (x := t_ask_net v_lines v_stands v_comers) ?_
  show JE (fb_ask_net [.fz ((eL eLine) v_lines), .fz ((eL eStand) v_stands), .fz ((eT2 D.str eNum) v_comers), .un, .un, .un, .un, .un]) _
  delta fb_ask_net t_ask_net
  delta s_ask_net at h
  exact sq (ρ1 := [.fz ((eL eLine) v_lines), .fz ((eL eStand) v_stands), .fz ((eT2 D.str eNum) v_comers), .un, .un, .un, .un, .un]) (sDrop (mfz (cN (x1 (anV (chn rfl (c1 (a1 (vf 0 rfl) a0) (o_lenL (F := eLine))) rfl (fun hc1 => rfl) (fun _ => rfl)) (fun hc3 => chn rfl (c1 (a1 (vf 1 rfl) a0) (o_lenL (F := eStand))) rfl (fun hc2 => rfl) (fun _ => rfl))) (x1 rfl x0)) rfl rfl (e_ask (v_good := (((decide ((1 : Int) ≤ (v_lines.length : Int))) && (decide ((v_lines.length : Int) ≤ (8 : Int)))) && ((decide ((1 : Int) ≤ (v_stands.length : Int))) && (decide ((v_stands.length : Int) ≤ (12 : Int)))))) (v_words := ("lines and stands" : Str)) h.1 :) rfl))) (bdh h.2 (fun h => sq (ρ1 := [.fz ((eL eLine) v_lines), .fz ((eL eStand) v_stands), .fz ((eT2 D.str eNum) v_comers), .un, .un, .un, .un, .un]) (forN (F := eLine) (ctx := fun (z4 : Unit) => [.fz ((eL eLine) v_lines), .fz ((eL eStand) v_stands), .fz ((eT2 D.str eNum) v_comers), .un, .un, .un, .un, .un]) (i_L (F := eLine) (vf 0 rfl)) h.1 (fun z4 xv5 h => ⟨_, rfl, sq (ρ1 := [.fz ((eL eLine) v_lines), .fz ((eL eStand) v_stands), .fz ((eT2 D.str eNum) v_comers), .fz (eLine xv5), .un, .un, .un, .un]) (sDrop (mfz (cN (x1 (vf 3 rfl) x0) rfl rfl (e_ask_line (v_line := xv5) h :) rfl))) (sq (sKill (show _ = [.fz ((eL eLine) v_lines), .fz ((eL eStand) v_stands), .fz ((eT2 D.str eNum) v_comers), .un, .un, .un, .un, .un] from rfl)) rfl)⟩)) (bdh h.2 (fun h => sq (ρ1 := [.fz ((eL eLine) v_lines), .fz ((eL eStand) v_stands), .fz ((eT2 D.str eNum) v_comers), .un, .un, .un, .un, .un]) (forN (F := eStand) (ctx := fun (z6 : Unit) => [.fz ((eL eLine) v_lines), .fz ((eL eStand) v_stands), .fz ((eT2 D.str eNum) v_comers), .un, .un, .un, .un, .un]) (i_L (F := eStand) (vf 1 rfl)) h.1 (fun z6 xv7 h => ⟨_, rfl, sq (ρ1 := [.fz ((eL eLine) v_lines), .fz ((eL eStand) v_stands), .fz ((eT2 D.str eNum) v_comers), .un, .fz (eStand xv7), .un, .un, .un]) (sDrop (mfz (cN (x1 (vf 4 rfl) (x1 (c1 (a1 (vf 0 rfl) a0) (o_lenL (F := eLine))) (x1 (c1 (a1 (vf 1 rfl) a0) (o_lenL (F := eStand))) x0))) rfl rfl (e_ask_stand (v_stand := xv7) (v_lines := (v_lines.length : Int)) (v_many := (v_stands.length : Int)) h :) rfl))) (sq (sKill (show _ = [.fz ((eL eLine) v_lines), .fz ((eL eStand) v_stands), .fz ((eT2 D.str eNum) v_comers), .un, .un, .un, .un, .un] from rfl)) rfl)⟩)) (bdh h.2 (fun h => sqB (ctx := fun (v_used_11 : (List Int)) => [.fz ((eL eLine) v_lines), .fz ((eL eStand) v_stands), .fz ((eT2 D.str eNum) v_comers), .un, .un, .ow ((eL D.int) v_used_11), .un, .un]) (sSetO (lcM (F := eStand) (G := D.int) (φ := fun (xv8 : Stand) => xv8.1) (ρ1 := [.fz ((eL eLine) v_lines), .fz ((eL eStand) v_stands), .fz ((eT2 D.str eNum) v_comers), .un, .un, .un, .un, .un]) (i_L (F := eStand) (vf 1 rfl)) rfl (fun xv8 hx9 => ⟨_, rfl, rfl, _, b2 (vf 4 rfl) rfl rfl, rfl⟩) h.1 rfl) rfl) h.2 (fun v_used_11 h => sq (sFrz (i := 5) rfl (show _ = [.fz ((eL eLine) v_lines), .fz ((eL eStand) v_stands), .fz ((eT2 D.str eNum) v_comers), .un, .un, zJ v_used_11, .un, .un] from rfl)) (sq (ρ1 := [.fz ((eL eLine) v_lines), .fz ((eL eStand) v_stands), .fz ((eT2 D.str eNum) v_comers), .un, .un, zJ v_used_11, .un, .un]) (sDrop (mfz (cN (x1 (b2 (mfz (lcP (F := D.int) (G := D.int) (p := fun (xv12 : Int) => (!decide (xv12 ∈ v_used_11))) (φ := fun (xv12 : Int) => xv12) (ρ1 := [.fz ((eL eLine) v_lines), .fz ((eL eStand) v_stands), .fz ((eT2 D.str eNum) v_comers), .un, .un, zJ v_used_11, .un, .un]) (i_r1 (a1 (c1 (a1 (vf 0 rfl) a0) (o_lenL (F := eLine))) a0) h.1) rfl (fun xv12 hx13 => ⟨_, rfl, tst (b2 (vf 3 rfl) (vf 5 rfl) (o_ninI (x := xv12) (ys := v_used_11))), rfl, fun hc14 => ⟨_, vf 3 rfl, rfl⟩⟩) h.2.1 rfl)) (mfz (mlst a0)) ((o_eq (F := (eL D.int)) (x := (((rangeI 0 ((v_lines.length : Int))).filter (fun (xv12 : Int) => (!decide (xv12 ∈ v_used_11)))).map (fun (xv12 : Int) => xv12))) (y := ([] : List Int)) (gL gI)))) (x1 rfl x0)) rfl rfl (e_ask (v_good := (decide ((((rangeI 0 ((v_lines.length : Int))).filter (fun (xv12 : Int) => (!decide (xv12 ∈ v_used_11)))).map (fun (xv12 : Int) => xv12)) = ([] : List Int)))) (v_words := ("each line has a stand" : Str)) h.2.2.1 :) rfl))) (bdh h.2.2.2 (fun h => sqB (ctx := fun (z15 : (Str × Num)) => [.fz ((eL eLine) v_lines), .fz ((eL eStand) v_stands), .fz ((eT2 D.str eNum) v_comers), .un, .un, zJ v_used_11, .fz (D.str z15.1), .fz (eNum z15.2)]) (sAsg (vf 2 rfl) rfl) h (fun z15 h => sq (ρ1 := [.fz ((eL eLine) v_lines), .fz ((eL eStand) v_stands), .fz ((eT2 D.str eNum) v_comers), .un, .un, zJ v_used_11, .fz (D.str z15.1), .fz (eNum z15.2)]) (sDrop (mfz (cN (x1 (anV (b2 (vf 6 rfl) (mtup (a1 rfl (a1 rfl a0))) (o_inSV (x := z15.1) (ys := [("open" : Str), ("shut" : Str)]))) (fun hc16 => b2 (c1 (a1 (vf 7 rfl) a0) o_lenNum) (c1 (a1 (vf 1 rfl) a0) (o_lenL (F := eStand))) dEq_i)) (x1 rfl x0)) rfl rfl (e_ask (v_good := ((decide (z15.1 ∈ [("open" : Str), ("shut" : Str)])) && (decide (((numLen z15.2) : Int) = (v_stands.length : Int))))) (v_words := ("open or shut, a number a stand" : Str)) h.1 :) rfl))) (bdh h.2 (fun h => sq (ρ1 := [.fz ((eL eLine) v_lines), .fz ((eL eStand) v_stands), .fz ((eT2 D.str eNum) v_comers), .un, .un, zJ v_used_11, .fz (D.str z15.1), .fz (eNum z15.2)]) (ifJ (ctx := fun (z17 : Unit) => [.fz ((eL eLine) v_lines), .fz ((eL eStand) v_stands), .fz ((eT2 D.str eNum) v_comers), .un, .un, zJ v_used_11, .fz (D.str z15.1), .fz (eNum z15.2)]) (v := ()) (w := ()) (tst (b2 (vf 6 rfl) rfl dEq_s)) (fun hc => (bdh (h.1 hc) (fun h => jnE (ctx := fun (z17 : Unit) => [.fz ((eL eLine) v_lines), .fz ((eL eStand) v_stands), .fz ((eT2 D.str eNum) v_comers), .un, .un, zJ v_used_11, .fz (D.str z15.1), .fz (eNum z15.2)]) (s := ()) (sq (ρ1 := [.fz ((eL eLine) v_lines), .fz ((eL eStand) v_stands), .fz ((eT2 D.str eNum) v_comers), .un, .un, zJ v_used_11, .fz (D.str z15.1), .fz (eNum z15.2)]) (sDrop (mfz (cN (x1 (vf 0 rfl) (x1 ((cNumQ (vf 7 rfl) h.1)) x0)) rfl rfl (e_ask_rates (v_lines := v_lines) (v_rates := (numQ z15.2)) h.2 :) rfl))) rfl)))) (fun hc => (bdh (h.2 hc) (fun h => jnE (ctx := fun (z17 : Unit) => [.fz ((eL eLine) v_lines), .fz ((eL eStand) v_stands), .fz ((eT2 D.str eNum) v_comers), .un, .un, zJ v_used_11, .fz (D.str z15.1), .fz (eNum z15.2)]) (s := ()) (sq (ρ1 := [.fz ((eL eLine) v_lines), .fz ((eL eStand) v_stands), .fz ((eT2 D.str eNum) v_comers), .un, .un, zJ v_used_11, .fz (D.str z15.1), .fz (eNum z15.2)]) (sDrop (mfz (cN (x1 (vf 0 rfl) (x1 (vf 1 rfl) (x1 ((cNumI (vf 7 rfl) h.1)) x0))) rfl rfl (e_ask_counts (v_lines := v_lines) (v_stands := v_stands) (v_counts := (numI z15.2)) h.2 :) rfl))) rfl))))) (⟨_, rfl⟩))))))))))))))
noncomputable def fb_made_net : M Fl :=
  mSeq (mDrop (mFz (mCallN 3 none fn_ask_net (xV (mVar 0) (xV (mVar 1) (xV (mVar 2) xNil))))))
    (mSeq (mSet 3 (mLc [4, 5, 6, 7] (mIter (mVar 0)) (gT 4 (gsC (gN 4) (gsC (gN 5) (gsC (gN 6) (gsC (gN 7) gsN))))) (M.pure true) (mTup (mCons (mFz (mListOf (mCons (mVar 4) mNil))) (mCons (mVar 5) (mCons (mVar 6) (mCons (mVar 7) mNil)))))))
    (mSeq (mFrz 3)
    (mRet (mOf (mTup (mCons (mVar 3) (mCons (mFz (mLc [8, 9, 10] (mIter (mVar 1)) (gT 3 (gsC (gN 8) (gsC (gN 9) (gsC (gN 10) gsN)))) (M.pure true) (mTup (mCons (mVar 8) (mCons (mVar 9) (mCons (mFz (mListOf (mCons (mVar 10) mNil))) mNil)))))) (mCons (mTup (mCons (mBin dIx (mVar 2) (M.pure (.int 0))) (mCons (mFz (mListOf (mCons (mBin dIx (mVar 2) (M.pure (.int 1))) mNil))) mNil))) mNil))))))))
noncomputable def fn_made_net : List D → Rf := runF none 11 fb_made_net
def s_made_net (v_lines : (List Line)) (v_stands : (List Stand)) (v_comers : (Str × Num)) : Prop :=
  ((s_ask_net v_lines v_stands v_comers) ∧ (((v_lines.length ≤ 10000) ∧ (bd (v_lines.map (fun (xv1 : Line) => (xv1.1, xv1.2.1, xv1.2.2.1, xv1.2.2.2))) (fun (v_made_4 : (List Line)) => (v_stands.length ≤ 10000))))))
end Net
namespace Dt
open PySem L2
@[simp] theorem bd_eq {α β : Sort _} (v : α) (b : α → β) : bd v b = b v := rfl
inductive All2 {α β : Type} (R : α → β → Prop) : List α → List β → Prop
  | nil : All2 R [] []
  | cons {x : α} {y : β} {xs : List α} {ys : List β} : R x y → All2 R xs ys → All2 R (x :: xs) (y :: ys)
theorem All2.len {α β : Type} {R : α → β → Prop} {xs : List α} {ys : List β} (h : All2 R xs ys) : xs.length = ys.length := by
  induction h with
  | nil => rfl
  | cons _ _ ih => simp [ih]
theorem All2.right {α β : Type} {P : β → Prop} {R : α → β → Prop} {xs : List α} {ys : List β} (h : All2 R xs ys) (k : ∀ x ∈ xs, ∀ y, R x y → P y) : ∀ y ∈ ys, P y := by
  induction h with
  | nil => intro y hy; cases hy
  | cons r t ih =>
    intro y hy
    rcases List.mem_cons.mp hy with rfl | hy
    · exact k _ (by simp) _ r
    · exact ih (fun x hx => k x (List.mem_cons_of_mem _ hx)) y hy
section
variable {σ α β ρ : Type}
theorem sfl_all {f : σ → α → σ} {S : σ → α → Prop} : ∀ {xs : List α} {s : σ}, (∀ s, ∀ x ∈ xs, S s x) → sfl f S xs s
  | [], _, _ => trivial
  | x :: r, s, h => ⟨h s x (by simp), sfl_all fun s y hy => h s y (List.mem_cons_of_mem _ hy)⟩
theorem sfl_of {f : σ → α → σ} {S : σ → α → Prop} (I : Nat → σ → Prop) : ∀ (xs : List α) (s : σ) (k : Nat), I k s → (∀ j (hj : j < xs.length) s, I (k + j) s → S s xs[j] ∧ I (k + j + 1) (f s xs[j])) → sfl f S xs s ∧ I (k + xs.length) (xs.foldl f s)
  | [], s, k, h, _ => ⟨trivial, h⟩
  | x :: r, s, k, h, hs => by
    obtain ⟨h1, h2⟩ := hs 0 (by simp) s h
    obtain ⟨h3, h4⟩ := sfl_of I r (f s x) (k + 1) h2 (fun j hj s hI => by
      have := hs (j + 1) (by simpa using hj) s (by rw [show k + (j + 1) = k + 1 + j by omega]; exact hI)
      rw [show k + (j + 1) + 1 = k + 1 + j + 1 by omega] at this
      exact this)
    refine ⟨⟨h1, h3⟩, ?_⟩
    rw [show k + (x :: r).length = k + 1 + r.length by simp; omega]
    exact h4
theorem sfl_of0 {f : σ → α → σ} {S : σ → α → Prop} (I : Nat → σ → Prop) (xs : List α) (s : σ) (h : I 0 s) (hs : ∀ j (hj : j < xs.length) s, I j s → S s xs[j] ∧ I (j + 1) (f s xs[j])) : sfl f S xs s ∧ I xs.length (xs.foldl f s) := by
  have := sfl_of I xs s 0 h (fun j hj s hI => by rw [Nat.zero_add] at hI ⊢; exact hs j hj s hI)
  rw [Nat.zero_add] at this; exact this
theorem lcS_map {e : α → σ → β × σ} {S : α → σ → Prop} (R : α → β → Prop) : ∀ (xs : List α) (s : σ),
    (∀ x ∈ xs, ∀ s, S x s ∧ R x (e x s).1) → slcS (fun _ s => (true, s)) e S xs s ∧ All2 R xs (lcS (fun _ s => (true, s)) e xs s).1
  | [], s, _ => ⟨trivial, .nil⟩
  | x :: r, s, hs => by
    obtain ⟨h1, h2⟩ := hs x (by simp) s
    obtain ⟨h3, h4⟩ := lcS_map (e := e) (S := S) R r (e x s).2 (fun y hy => hs y (List.mem_cons_of_mem _ hy))
    exact ⟨⟨h1, fun _ => h3, fun z => by cases z⟩, .cons h2 h4⟩
end
theorem rangeI_len (lo hi : Int) : (rangeI lo hi).length = (hi - lo).toNat := by unfold rangeI; rw [List.length_map, List.length_range]
theorem rangeI_get {lo hi : Int} {k : Nat} (h : k < (rangeI lo hi).length) : (rangeI lo hi)[k] = lo + (k : Int) := by
  have : (rangeI lo hi)[k]? = some (lo + (k : Int)) := by
    have h' := h
    rw [rangeI_len] at h'
    unfold rangeI
    rw [List.getElem?_map, List.getElem?_range h']; rfl
  rw [List.getElem?_eq_getElem h] at this
  injection this
theorem mem_rangeI {lo hi x : Int} : x ∈ rangeI lo hi ↔ lo ≤ x ∧ x < hi := by
  unfold rangeI
  rw [List.mem_map]
  constructor
  · rintro ⟨k, hk, rfl⟩
    rw [List.mem_range] at hk
    omega
  · intro h
    exact ⟨(x - lo).toNat, by rw [List.mem_range]; omega, by omega⟩
theorem ix_nat {α : Type} [Inhabited α] {xs : List α} {i : Int} (h0 : 0 ≤ i) (h1 : i < xs.length) : ∃ h : i.toNat < xs.length, ix xs i = xs[i.toNat] := by
  have h : i.toNat < xs.length := by omega
  refine ⟨h, ?_⟩
  unfold ix ixN'
  rw [if_neg (by omega), List.getD_eq_getElem?_getD, List.getElem?_eq_getElem h]; rfl
theorem ix_mem {α : Type} [Inhabited α] {xs : List α} {i : Int} (h : InB xs.length i) : ix xs i ∈ xs := by
  obtain ⟨_, h2⟩ := ixN_of h
  unfold ix
  rw [List.getD_eq_getElem?_getD, List.getElem?_eq_getElem h2]
  exact List.getElem_mem h2
theorem ix_last {α : Type} [Inhabited α] {xs : List α} (h : xs ≠ []) : ix xs (-1) = xs.getLast h := by
  have hl : 0 < xs.length := List.length_pos_iff.mpr h
  unfold ix ixN'
  rw [if_pos (by decide), List.getD_eq_getElem?_getD, List.getElem?_eq_getElem (by omega), List.getLast_eq_getElem]
  show xs[_] = _
  congr 1
  omega
theorem inB_nat {n : Nat} {i : Int} (h0 : 0 ≤ i) (h1 : i < n) : InB n i := ⟨by omega, h1⟩
theorem inB_last {n : Nat} (h : 0 < n) : InB n (-1) := ⟨by omega, by omega⟩
theorem mem_enumI {α : Type} {xs : List α} {p : Int × α} (h : p ∈ enumI xs) : ∃ k, ∃ hk : k < xs.length, p = ((k : Int), xs[k]) := by
  unfold enumI at h
  obtain ⟨k, hk, rfl⟩ := List.mem_iff_getElem.mp h
  rw [List.length_zip, rangeI_len] at hk
  have h1 : k < xs.length := by omega
  refine ⟨k, h1, ?_⟩
  rw [List.getElem_zip, rangeI_get]
  simp
theorem enumI_len {α : Type} (xs : List α) : (enumI xs).length = xs.length := by
  unfold enumI
  rw [List.length_zip, rangeI_len]; omega
theorem cut_butlast {α : Type} {xs : List α} : cut xs none (some (-1)) = xs.dropLast := by
  have e : HT.sIx xs.length xs.length (some (-1)) = xs.length - 1 := by
    show (if (-1 : Int) < 0 then (-1 + (xs.length : Int)).toNat else min (-1 : Int).toNat xs.length) = _
    rw [if_pos (by decide)]; omega
  unfold cut
  rw [e]
  show (xs.drop 0).take (xs.length - 1 - 0) = _
  rw [List.drop_zero, List.dropLast_eq_take]; rfl
theorem cut_tail {α : Type} {xs : List α} : cut xs (some 1) none = xs.drop 1 := by
  have e : HT.sIx xs.length 0 (some 1) = min 1 xs.length := by
    show (if (1 : Int) < 0 then (1 + (xs.length : Int)).toNat else min (1 : Int).toNat xs.length) = _
    rw [if_neg (by decide)]; rfl
  unfold cut
  rw [e]
  show (xs.drop _).take (xs.length - _) = _
  rw [List.take_of_length_le (by rw [List.length_drop]; exact Nat.le_refl _)]
  cases xs with
  | nil => rfl
  | cons x r =>
    rw [show min 1 (x :: r).length = 1 by simp]
theorem maxL_mem {xs : List Int} (h : xs ≠ []) : maxL xs ∈ xs := by
  cases xs with
  | nil => exact absurd rfl h
  | cons n ns =>
    rcases (foldl_max n ns).1 with q | q
    · show ns.foldl max n ∈ _; rw [q]; simp
    · exact List.mem_cons_of_mem _ q
theorem le_maxL {xs : List Int} {x : Int} (h : x ∈ xs) : x ≤ maxL xs := by
  cases xs with
  | nil => cases h
  | cons n ns =>
    rcases List.mem_cons.mp h with rfl | h
    · exact (foldl_max x ns).2.1
    · exact (foldl_max n ns).2.2 x h
theorem minL_mem {xs : List Int} (h : xs ≠ []) : minL xs ∈ xs := by
  cases xs with
  | nil => exact absurd rfl h
  | cons n ns =>
    rcases (foldl_min n ns).1 with q | q
    · show ns.foldl min n ∈ _; rw [q]; simp
    · exact List.mem_cons_of_mem _ q
end Dt
namespace Dt
section
variable {α β : Type} {P : β → Prop} {A B S1 S2 : Prop} {t t1 t2 : β} {c : Bool}
theorem hd_bd {v : α} {S : α → Prop} {b : α → β} (Q : α → Prop) (hq : Q v) (h : ∀ z, Q z → S z ∧ P (b z)) : bd v S ∧ P (bd v b) := h v hq
theorem hd_eq {v : α} {S : α → Prop} {b : α → β} (h : S v ∧ P (b v)) : bd v S ∧ P (bd v b) := h
theorem hd_and (a : A) (h : B ∧ P t) : (A ∧ B) ∧ P t := ⟨⟨a, h.1⟩, h.2⟩
theorem hd_cond (h1 : c = true → S1 ∧ P t1) (h2 : c = false → S2 ∧ P t2) : ((c = true → S1) ∧ (c = false → S2)) ∧ P (cond c t1 t2) := by
  cases c with
  | true => exact ⟨⟨fun _ => (h1 rfl).1, fun z => absurd z.symm Bool.false_ne_true⟩, (h1 rfl).2⟩
  | false => exact ⟨⟨fun z => absurd z Bool.false_ne_true, fun _ => (h2 rfl).1⟩, (h2 rfl).2⟩
theorem hd_fold {σ : Type} {f : σ → α → σ} {S : σ → α → Prop} {xs : List α} {s : σ} {S' : σ → Prop} {b : σ → β} (I : Nat → σ → Prop) (h0 : I 0 s) (hs : ∀ j (hj : j < xs.length) s, I j s → S s xs[j] ∧ I (j + 1) (f s xs[j])) (h : ∀ z, I xs.length z → S' z ∧ P (b z)) : (sfl f S xs s ∧ bd (xs.foldl f s) S') ∧ P (bd (xs.foldl f s) b) := by
  obtain ⟨h1, h2⟩ := sfl_of0 I xs s h0 hs
  exact ⟨⟨h1, (h _ h2).1⟩, (h _ h2).2⟩
theorem hd_last {v : α} (h : (A ∧ bd v (fun _ => True)) ∧ P t) : A ∧ P t := ⟨h.1.1, h.2⟩
end
end Dt
namespace Net
open PySem L2 Dt Std
theorem s_ask_iff {g : Bool} {w : Str} : s_ask g w ↔ g = true := by
  unfold s_ask; cases g <;> simp
def SmQ (q : Rat) : Prop := 0 ≤ q.num ∧ q.num ≤ 1000 ∧ q.den ≤ 1000
structure GoodLine (l : Line) : Prop where
  n1 : 1 ≤ l.1.length
  n6 : l.1.length ≤ 6
  sp : ∀ x ∈ l.1, SmQ x ∧ 0 < x
  up : l.1.Pairwise (· ≤ ·)
  mo : SmQ l.2.1
  r0 : 0 ≤ l.2.2.1
  r9 : l.2.2.1 ≤ 9
  ru : (l.2.2.1 = 0 ∧ l.2.2.2 = "") ∨ (0 < l.2.2.1 ∧ l.2.2.2 ∈ [("stay" : Str), "lose", "skip"])
structure GoodStand (nl ns : Nat) (s : Stand) : Prop where
  l0 : 0 ≤ s.1
  l1 : s.1 < nl
  ra : SmQ s.2.1 ∧ 0 < s.2.1
  wy : ∀ w ∈ s.2.2, 0 ≤ w.1 ∧ w.1 < ns ∧ SmQ w.2 ∧ 0 < w.2
  up : s.2.2.Pairwise (fun a b => a.1 < b.1)
  le : sumQ (s.2.2.map (·.2)) ≤ 1
def begins (ss : List Stand) (c : List Int) (i : Int) : Int := (((c.zip ss).filter (fun x => decide (x.2.1 = i))).map (·.1)).sum
def GoodCom (ls : List Line) (ss : List Stand) (c : Com) : Prop :=
  (c.1 = "open" ∧ ∃ r, c.2 = .inl r ∧ r.length = ss.length ∧ (∀ x ∈ r, SmQ x) ∧ (∃ x ∈ r, x ≠ 0) ∧ ((∀ l ∈ ls, l.2.2.1 = 0 ∧ l.2.1 = 0) ∨ ∀ l ∈ ls, 0 < l.2.2.1)) ∨
  (c.1 = "shut" ∧ ∃ n, c.2 = .inr n ∧ n.length = ss.length ∧ (∀ x ∈ n, 0 ≤ x) ∧ 1 ≤ n.sum ∧ n.sum ≤ 8 ∧ (∀ l ∈ ls, l.2.2.2 ≠ "lose") ∧ (∀ s ∈ ss, sumQ (s.2.2.map (·.2)) = 1) ∧ ∀ (i : Nat) (h : i < ls.length), ls[i].2.2.1 = 0 ∨ begins ss n i ≤ ls[i].2.2.1)
structure GoodNet (ls : List Line) (ss : List Stand) (c : Com) : Prop where
  l1 : 1 ≤ ls.length
  l8 : ls.length ≤ 8
  s1 : 1 ≤ ss.length
  s12 : ss.length ≤ 12
  ln : ∀ l ∈ ls, GoodLine l
  st : ∀ s ∈ ss, GoodStand ls.length ss.length s
  us : ∀ i : Nat, i < ls.length → ∃ s ∈ ss, s.1 = (i : Int)
  cm : GoodCom ls ss c
theorem SmQ.sz {q : Rat} (h : SmQ q) : sz q ≤ 10 := sz_le ⟨by have := h.1; have := h.2.1; omega, by have := h.2.2; omega⟩
theorem ask_fraction_s {q : Rat} {k : Bool} (h : SmQ q) (h2 : k = true → 0 < q) : s_ask_fraction q k := by
  obtain ⟨a, b, c⟩ := h
  have d := den_pos q
  have hg : Nat.gcd q.num.toNat ((q.den : Int)).toNat = 1 := by
    have := q.reduced
    rw [Int.toNat_natCast, show q.num.toNat = q.num.natAbs by omega]
    exact this
  unfold s_ask_fraction
  simp only [bd_eq, s_ask_iff, hg]
  refine ⟨fun _ _ => ⟨a, by omega⟩, ?_, ?_⟩
  · simp only [Bool.and_eq_true, decide_eq_true_eq]; omega
  · cases k with
    | false => simp
    | true =>
      have := h2 rfl
      have := num_pos this
      simp only [Bool.or_eq_true, decide_eq_true_eq]; omega
theorem ask_line_s {l : Line} (h : GoodLine l) : s_ask_line l := by
  unfold s_ask_line
  simp only [bd_eq, s_ask_iff]
  have n1 := h.n1
  have n6 := h.n6
  have r0 := h.r0
  have r9 := h.r9
  refine ⟨by simp; omega, sfl_all fun _ x hx => ask_fraction_s (h.sp x hx).1 fun _ => (h.sp x hx).2, sfl_all fun _ p hp => ?_, ask_fraction_s h.mo (fun z => by cases z), by simp; omega, ?_, ?_⟩
  · rw [cut_butlast, cut_tail] at hp
    obtain ⟨h1, h2⟩ := List.of_mem_zip hp
    have m1 : p.1 ∈ l.1 := List.dropLast_subset _ h1
    have m2 : p.2 ∈ l.1 := List.mem_of_mem_drop h2
    refine ⟨?_, ?_⟩
    · have := (h.sp _ m1).1.sz
      have := (h.sp _ m2).1.sz
      unfold SQ; omega
    · obtain ⟨k, hk, e⟩ := List.mem_iff_getElem.mp hp
      rw [List.length_zip, List.length_dropLast, List.length_drop] at hk
      rw [List.getElem_zip, List.getElem_dropLast, List.getElem_drop] at e
      have := List.pairwise_iff_getElem.mp h.up k (1 + k) (by omega) (by omega) (by omega)
      rw [← e]
      simp only [Bool.not_eq_true', decide_eq_false_iff_not]
      exact Rat.not_lt.mpr this
  · intro z
    rw [decide_eq_true_iff] at z
    rcases h.ru with ⟨_, e⟩ | ⟨e, _⟩
    · exact decide_eq_true e
    · omega
  · intro z
    rw [decide_eq_false_iff_not] at z
    rcases h.ru with ⟨e, _⟩ | ⟨_, e⟩
    · exact absurd e z
    · exact decide_eq_true e
theorem tsz_sm {xs : List Rat} (h : ∀ x ∈ xs, SmQ x) : tsz xs ≤ xs.length * 11 + 1 := tsz_le fun x hx => (h x hx).sz
theorem rising_len {n : Nat} : ∀ {xs : List Int} {lo : Int}, (∀ x ∈ xs, lo ≤ x ∧ x < n) → xs.Pairwise (· < ·) → 0 ≤ lo → lo ≤ n → (xs.length : Int) + lo ≤ n
  | [], lo, _, _, _, h => by simpa using h
  | x :: r, lo, h, p, h0, h1 => by
    rw [List.pairwise_cons] at p
    have hx := h x (by simp)
    have := rising_len (xs := r) (lo := x + 1) (fun y hy => ⟨by have := p.1 y hy; omega, (h y (List.mem_cons_of_mem _ hy)).2⟩) p.2 (by omega) (by omega)
    rw [List.length_cons]; omega
theorem ways_len {nl ns : Nat} {s : Stand} (h : GoodStand nl ns s) : s.2.2.length ≤ ns := by
  have := rising_len (n := ns) (xs := s.2.2.map (·.1)) (lo := 0) (fun x hx => by
    obtain ⟨w, hw, rfl⟩ := List.mem_map.mp hx
    have := h.wy w hw
    exact ⟨this.1, this.2.1⟩) (by rw [List.pairwise_map]; exact h.up) (by decide) (by omega)
  rw [List.length_map] at this
  omega
theorem ask_stand_s {nl ns : Nat} {s : Stand} (h : GoodStand nl ns s) (hn : ns ≤ 12) : s_ask_stand s nl ns := by
  have wl := ways_len h
  have ht : tsz (s.2.2.map (·.2)) ≤ s.2.2.length * 11 + 1 := by
    have := tsz_sm (xs := s.2.2.map (·.2)) (fun x hx => by
      obtain ⟨w, hw, rfl⟩ := List.mem_map.mp hx
      exact (h.wy w hw).2.2.1)
    rw [List.length_map] at this
    exact this
  have hz := sz_sumL (s.2.2.map (·.2))
  unfold s_ask_stand
  simp only [bd_eq, s_ask_iff]
  refine ⟨by simp; exact ⟨h.l0, h.l1⟩, ask_fraction_s h.ra.1 fun _ => h.ra.2, ?_, by omega, by omega, by unfold SQ; rw [sz_1]; omega, ?_⟩
  · refine (sfl_of0 (fun k (z : Int) => (k = 0 → z = -1) ∧ ∀ j (hj : j < s.2.2.length), j + 1 = k → z = s.2.2[j].1) s.2.2 (-1) ⟨fun _ => rfl, fun j hj e => by omega⟩ (fun k hk z hz => ?_)).1
    have hw := h.wy _ (List.getElem_mem hk)
    refine ⟨⟨?_, ask_fraction_s hw.2.2.1 fun _ => hw.2.2.2⟩, fun e => by omega, fun j hj e => by
      have : j = k := by omega
      subst this; rfl⟩
    simp only [Bool.and_eq_true, decide_eq_true_eq]
    refine ⟨?_, hw.2.1⟩
    cases k with
    | zero => rw [hz.1 rfl]; have := hw.1; omega
    | succ k =>
      rw [hz.2 k (by omega) rfl]
      exact List.pairwise_iff_getElem.mp h.up k (k + 1) (by omega) hk (by omega)
  · simp only [Bool.not_eq_true', decide_eq_false_iff_not]
    exact Rat.not_lt.mpr h.le
theorem rule_ok {x : Str} (h : x ∈ [("stay" : Str), "lose", "skip"] ∨ x = "") : PyData.strOk x = true := by
  rcases h with h | rfl
  · simp only [List.mem_cons, List.not_mem_nil, or_false] at h
    rcases h with rfl | rfl | rfl <;> decide +kernel
  · decide +kernel
theorem GoodLine.okS {l : Line} (h : GoodLine l) : PyData.strOk l.2.2.2 = true := by
  rcases h.ru with ⟨_, e⟩ | ⟨_, e⟩
  · exact rule_ok (.inr e)
  · exact rule_ok (.inl e)
theorem ok_line {l : Line} (h : PyData.strOk l.2.2.2 = true) {n : Nat} (hn : 3 ≤ n) : okD n (eLine l) = true := by
  obtain ⟨m, rfl⟩ : ∃ m, n = m + 3 := ⟨n - 3, by omega⟩
  have h1 := okD_up (show 2 ≤ m + 2 by omega) ((gL gQ).ok l.1)
  have h2 := okD_up (show 1 ≤ m + 2 by omega) (gQ.ok l.2.1)
  show (okD (m + 2) (eL fq l.1) && (okD (m + 2) (fq l.2.1) && (okD (m + 2) (D.int l.2.2.1) && (okD (m + 2) (D.str l.2.2.2) && true)))) = true
  rw [h1, h2, okD_int]
  simpa [okD] using h
theorem ok_lines {ls : List Line} (h : ∀ l ∈ ls, PyData.strOk l.2.2.2 = true) {n : Nat} (hn : 4 ≤ n) : okD n (eL eLine ls) = true := by
  obtain ⟨m, rfl⟩ : ∃ m, n = m + 1 := ⟨n - 1, by omega⟩
  show (ls.map eLine).all (okD m) = true
  rw [List.all_map, List.all_eq_true]
  exact fun l hl => ok_line (h l hl) (by omega)
theorem okE_lines {ls : List Line} (h : ∀ l ∈ ls, GoodLine l) : OkE (eL eLine) ls := ok_lines (fun l hl => (h l hl).okS) (by decide)
theorem filter_nil {α : Type} {p : α → Bool} {xs : List α} (h : ∀ x ∈ xs, p x = false) : xs.filter p = [] := by
  rw [List.filter_eq_nil_iff]
  intro x hx; rw [h x hx]; simp
theorem good_made {ls : List Line} {ss : List Stand} {c : Com} (h : GoodNet ls ss c) : s_made_net ls ss c := by
  have l1 := h.l1
  have l8 := h.l8
  have s1 := h.s1
  have s12 := h.s12
  unfold s_made_net
  simp only [bd_eq]
  refine ⟨?_, by omega, by omega⟩
  unfold s_ask_net
  simp only [bd_eq, s_ask_iff]
  refine ⟨by simp; omega, sfl_all fun _ l hl => ask_line_s (h.ln l hl), sfl_all fun _ s hs => ask_stand_s (h.st s hs) s12, by omega, by omega, by rw [rangeI_len]; omega, ?_, ?_, ?_, ?_⟩
  · rw [decide_eq_true_iff, filter_nil, List.map_nil]
    intro x hx
    rw [mem_rangeI] at hx
    obtain ⟨s, hs, e⟩ := h.us x.toNat (by omega)
    have : x ∈ ss.map (fun x => x.1) := List.mem_map.mpr ⟨s, hs, by omega⟩
    simpa using this
  · rcases h.cm with ⟨e, r, e2, hl, _⟩ | ⟨e, r, e2, hl, _⟩
    · simp [e, e2, numLen, hl]
    · simp [e, e2, numLen, hl]
  · intro z
    rw [decide_eq_true_iff] at z
    rcases h.cm with ⟨e, r, e2, hl, h1, ⟨x, hx, h2⟩, h3⟩ | ⟨e, r, e2, _⟩
    · rw [e2]
      refine ⟨rfl, ?_⟩
      show s_ask_rates ls r
      unfold s_ask_rates
      simp only [bd_eq, s_ask_iff]
      have hne : ls.map (fun x => x.2.2.1) ≠ [] := by
        intro z
        have := congrArg List.length z
        simp at this; rw [this] at l1; simp at l1
      refine ⟨sfl_all fun _ x hx => ask_fraction_s (h1 x hx) (fun z => by cases z), by omega, ?_, by omega, hne, ?_, ?_⟩
      · rw [Bool.not_eq_true', decide_eq_false_iff_not]
        intro z
        have : x ∈ (r.filter (fun x => !decide (x = 0))).map (fun x => x) := List.mem_map.mpr ⟨x, List.mem_filter.mpr ⟨hx, by simp [h2]⟩, rfl⟩
        rw [z] at this; cases this
      · intro z
        rw [decide_eq_true_iff] at z
        refine ⟨by omega, ?_, rfl, ?_⟩
        · refine okE_lines fun l hl => h.ln l ?_
          obtain ⟨l', hl', rfl⟩ := List.mem_map.mp hl
          exact (List.mem_filter.mp hl').1
        · rw [decide_eq_true_iff, filter_nil, List.map_nil]
          intro l hl
          rcases h3 with h3 | h3
          · simp [(h3 l hl).2]
          · have h4 : l.2.2.1 ≤ maxL (ls.map fun x => x.2.2.1) := le_maxL (List.mem_map.mpr ⟨l, hl, rfl⟩)
            have := h3 l hl
            omega
      · intro z
        rw [decide_eq_false_iff_not] at z
        refine ⟨hne, ?_⟩
        rw [decide_eq_true_iff]
        obtain ⟨l, hl, e4⟩ := List.mem_map.mp (minL_mem hne)
        obtain ⟨l', hl', e5⟩ := List.mem_map.mp (maxL_mem hne)
        rcases h3 with h3 | h3
        · have := h3 l' hl'; omega
        · have := h3 l hl; omega
    · rw [e] at z; exact absurd z (by decide)
  · intro z
    rw [decide_eq_false_iff_not] at z
    rcases h.cm with ⟨e, _⟩ | ⟨e, n, e2, hl, h1, h2, h3, h4, h5, h6⟩
    · exact absurd e z
    · rw [e2]
      refine ⟨rfl, ?_⟩
      show s_ask_counts ls ss n
      unfold s_ask_counts
      simp only [bd_eq, s_ask_iff]
      have hne : n ≠ [] := by intro z; rw [z] at h2; simp at h2
      refine ⟨hne, ?_, by omega, ?_, rfl, ?_, sfl_all fun _ s hs => ⟨?_, ?_, ?_⟩, sfl_all fun _ p hp => ⟨?_, ?_⟩⟩
      · have := h1 _ (minL_mem hne)
        simp only [Bool.and_eq_true, decide_eq_true_eq]; omega
      · refine okE_lines fun l hl => h.ln l ?_
        obtain ⟨l', hl', rfl⟩ := List.mem_map.mp hl
        exact (List.mem_filter.mp hl').1
      · rw [decide_eq_true_iff, filter_nil, List.map_nil]
        intro l hl
        simp [h4 l hl]
      · have := ways_len (h.st s hs); omega
      · have := tsz_sm (xs := s.2.2.map (·.2)) (fun x hx => by
          obtain ⟨w, hw, rfl⟩ := List.mem_map.mp hx
          exact ((h.st s hs).wy w hw).2.2.1)
        rw [List.length_map] at this
        have := ways_len (h.st s hs)
        show tsz (s.2.2.map (·.2)) ≤ _
        omega
      · exact decide_eq_true (h5 s hs)
      · rw [List.length_zip]; omega
      · obtain ⟨k, hk, rfl⟩ := mem_enumI hp
        rcases h6 k hk with q | q
        · simp [q]
        · have : begins ss n k ≤ ls[k].2.2.1 := q
          unfold begins at this
          simp [this]
end Net
namespace Look
open PySem L2 Dt Std Net
section
variable {g : Int → List Int} {n : Nat} {S : List Int}
end
section
variable {net : Net} {n : Nat} {S : List Int}
end
theorem range_lt (lo hi : Int) : (rangeI lo hi).Pairwise (· < ·) := by
  rw [List.pairwise_iff_getElem]
  intro i j hi hj hij
  rw [rangeI_get, rangeI_get]; omega
section
variable {net : Net}
end
abbrev Gd (net : Net) : Prop := GoodNet net.1 net.2.1 net.2.2
section
variable {net : Net}
end
end Look
namespace Law
open PySem L2 Dt Std Net Look
theorem smq_div {a b : Int} (h0 : 0 ≤ a) (h1 : a ≤ 1000) (h2 : 0 < b) (h3 : b ≤ 1000) : SmQ (Rat.divInt a b) := by
  refine ⟨?_, ?_, ?_⟩
  · rw [num_div, Int.sign_eq_one_of_pos h2, Int.one_mul]
    exact Int.ediv_nonneg h0 (by omega)
  · rw [num_div, Int.sign_eq_one_of_pos h2, Int.one_mul]
    exact Int.le_trans (Int.ediv_le_self _ h0) h1
  · rw [den_div (by omega)]
    exact Nat.le_trans (Nat.div_le_self _ _) (by omega)
theorem divI_le {a b c : Int} (h : a ≤ b) (hc : 0 < c) : Rat.divInt a c ≤ Rat.divInt b c := by
  rw [Rat.divInt_eq_div, Rat.divInt_eq_div, Rat.div_def, Rat.div_def]
  exact Rat.mul_le_mul_of_nonneg_right (Rat.intCast_le_intCast.mpr h) (Rat.le_of_lt (Rat.inv_pos.mpr (Rat.intCast_pos.mpr hc)))
theorem divI_pos {a b : Int} (ha : 0 < a) (hb : 0 < b) : 0 < Rat.divInt a b := by
  rw [Rat.divInt_eq_div, Rat.div_def]
  exact Rat.mul_pos (Rat.intCast_pos.mpr ha) (Rat.inv_pos.mpr (Rat.intCast_pos.mpr hb))
theorem divI_self {a : Int} (h : 0 < a) : Rat.divInt a a = 1 := by
  rw [Rat.divInt_eq_div, Rat.div_def]
  exact Rat.mul_inv_cancel _ (fun z => by have := Rat.intCast_eq_zero_iff.mp z; omega)
theorem divI_add {a b c : Int} : Rat.divInt a c + Rat.divInt b c = Rat.divInt (a + b) c := by
  rw [Rat.divInt_eq_div, Rat.divInt_eq_div, Rat.divInt_eq_div, Rat.intCast_add]; grind
theorem sumQ_acc : ∀ (xs : List Rat) (a : Rat), xs.foldl (· + ·) a = a + sumQ xs
  | [], a => by unfold sumQ; simp; grind
  | x :: xs, a => by
    unfold sumQ
    rw [List.foldl_cons, List.foldl_cons, sumQ_acc xs (a + x), sumQ_acc xs (0 + x)]; grind
theorem sumQ_nil : sumQ [] = 0 := rfl
theorem sumQ_cons (x : Rat) (xs : List Rat) : sumQ (x :: xs) = x + sumQ xs := by
  show (x :: xs).foldl (· + ·) 0 = _
  rw [List.foldl_cons, sumQ_acc]; grind
theorem sumQ_div (c : Int) : ∀ ps : List Int, sumQ (ps.map fun p => Rat.divInt p c) = Rat.divInt ps.sum c
  | [] => by simp [sumQ_nil]
  | p :: ps => by rw [List.map_cons, sumQ_cons, sumQ_div c ps, divI_add, List.sum_cons]
theorem strOk_open : PyData.strOk ("open" : Str) = true := by decide +kernel
theorem strOk_shut : PyData.strOk ("shut" : Str) = true := by decide +kernel
theorem okE_net {net : Net} (g : Gd net) : OkE eNet net := by
  have h1 : okD 19 (eL eLine net.1) = true := ok_lines (fun l hl => (g.ln l hl).okS) (by decide)
  have h2 : okD 19 (eL eStand net.2.1) = true := okD_up (by decide) ((gL gStand).ok net.2.1)
  have h3 : okD 19 (eC net.2.2) = true := by
    show (okD 18 (D.str net.2.2.1) && (okD 18 (eNum net.2.2.2) && true)) = true
    rcases g.cm with ⟨e, r, e2, _⟩ | ⟨e, r, e2, _⟩
    · rw [e, e2]
      have := okD_up (show 2 ≤ 18 by decide) ((gL gQ).ok r)
      show (PyData.strOk ("open" : Str) && (okD 18 (eL fq r) && true)) = true
      rw [this, strOk_open]; rfl
    · rw [e, e2]
      have := okD_up (show 1 ≤ 18 by decide) ((gL gI).ok r)
      show (PyData.strOk ("shut" : Str) && (okD 18 (eL D.int r) && true)) = true
      rw [this, strOk_shut]; rfl
  show (okD 19 (eL eLine net.1) && (okD 19 (eL eStand net.2.1) && (okD 19 (eC net.2.2) && true))) = true
  rw [h1, h2, h3]; rfl
theorem lcS_sub {σ : Type} {p : Int → σ → Bool × σ} (xs : List Int) (s : σ) : (lcS p (fun x s => (x, s)) xs s).1.Sublist xs := by
  induction xs generalizing s with
  | nil => exact .slnil
  | cons x r ih =>
    unfold lcS
    cases (p x s).1 with
    | true => exact (ih _).cons_cons _
    | false => exact (ih _).cons _
end Law
namespace Thru
open PySem L2 Dt Std Net Look Law
theorem ix_get {α : Type} [Inhabited α] {xs : List α} {i : Nat} (h : i < xs.length) : ix xs (i : Int) = xs[i] := by
  obtain ⟨_, e⟩ := ix_nat (xs := xs) (i := (i : Int)) (by omega) (by omega)
  exact e
theorem setI_nat {α : Type} {xs : List α} {i : Nat} {v : α} : setI xs (i : Int) v = xs.set i v := by
  have e1 : ixN' xs.length (i : Int) = i := by unfold ixN'; rw [if_neg (by omega)]; rfl
  unfold setI; rw [e1]
end Thru
namespace DrL
open PySem L2 Dt Std Net Look Law Thru Turn
def LineK (kd : Str) (y : Line) : Prop := GoodLine y ∧ (kd = "tight" → 0 < y.2.2.1) ∧ (kd ≠ "tight" → y.2.2.1 = 0 ∧ y.2.2.2 = "") ∧ (kd = "wide" → y.2.1 = 0)
theorem ix_snoc {α : Type} [Inhabited α] {xs : List α} {v : α} : ix (xs ++ [v]) (-1) = v := by
  rw [ix_last (by simp)]; simp
theorem smq_zero : SmQ 0 := ⟨by decide, by decide, by decide⟩
theorem enumI_get {α : Type} {xs : List α} {k : Nat} (h : k < (enumI xs).length) (h2 : k < xs.length) : (enumI xs)[k] = ((k : Int), xs[k]) := by
  have h3 : k < ((rangeI 0 (xs.length : Int)).zip xs).length := h
  have e : ((rangeI 0 (xs.length : Int)).zip xs)[k]'h3 = ((k : Int), xs[k]) := by
    rw [List.getElem_zip, rangeI_get]; simp
  exact e
end DrL
namespace Dt
open PySem PySem.Spec PyProof.Rows L2
mutual

def lfN : Mk → D → Bool
  | .z, d => d.noL
  | .l m, .lst ds => ds.all (lfN m)
  | .t ms, .tup ds => lfT ms ds
  | .e m, .dic _ ds => ds.all (lfN m)
  | .e m, .dct _ ds => ds.all (lfN m)
  | .e m, .ins _ _ ds => ds.all (lfN m)
  | .g m, d => lfN m d
  | .h ms, .lst ds => lfT ms ds
  | _, _ => false
def lfT : Mks → List D → Bool
  | .nil, [] => true
  | .cons m r, d :: ds => lfN m d && lfT r ds
  | _, _ => false
end
def iNoL : D → Bool
  | .lst ds => D.noLs ds
  | .dic _ ds => D.noLs ds
  | .dct _ ds => D.noLs ds
  | .ins _ _ ds => D.noLs ds
  | _ => false
def cutS (B : Hp) (S : List Addr) : Hp := fun x => if x ∈ S then none else B x
def AllC (B : Hp) (S : List Addr) : Prop := ∀ a ∈ S, ∃ o, B a = some o ∧ HO.isC o
section
variable {K : PySem.W.Frag} {B H : Hp} {S : List Addr}
theorem cutS_n {a : Addr} (h : B a = none) : cutS B S a = none := by unfold cutS; split <;> first | rfl | exact h
theorem cutS_in {a : Addr} (h : a ∈ S) : cutS B S a = none := if_pos h
theorem cutS_out {a : Addr} (h : a ∉ S) : cutS B S a = B a := if_neg h
theorem cutS_tup {a : Addr} {vs : List V} (h : B a = some (.tup vs)) (hc : AllC B S) : cutS B S a = some (.tup vs) := by
  rw [cutS_out fun z => ?_]
  · exact h
  · obtain ⟨o, e, c⟩ := hc a z
    rw [h] at e; injection e with e; subst e; exact c
theorem cutS_rd {t : Addr} {xs : List V} (h : Rd B t (.tup xs)) (hc : AllC B S) : Rd (cutS B S) t (.tup xs) := by
  have ne : t ∉ S := fun z => by
    obtain ⟨o, ha, hc⟩ := hc t z
    rcases h with h | ⟨u, h⟩
    · rw [ha] at h; injection h with h; subst h; exact hc
    · rw [ha] at h; injection h with h; subst h; exact hc
  rcases h with h | ⟨u, h⟩
  · exact .inl (by rw [cutS_out ne]; exact h)
  · exact .inr ⟨u, by rw [cutS_out ne]; exact h⟩
mutual
theorem Fz.cutS {v : V} {d : D} (hc : AllC B S) (n : d.noL = true) : Fz K B v d → Fz K (cutS B S) v d
  | .non => .non
  | .bl b => .bl b
  | .int i => .int i
  | .str x => .str x
  | .lst _ _ => by simp [D.noL] at n
  | .tup h hs => .tup (h.imp (fun h => cutS_rd h hc) id) (Fzs.cutS hc (by simpa only [D.noL] using n) hs)
  | .scr _ => by simp [D.noL] at n
  | .dic _ _ _ => by simp [D.noL] at n
  | .dct _ _ _ => by simp [D.noL] at n
  | .ins _ _ _ _ => by simp [D.noL] at n
  | .obj a => .obj a
  | .key h => .key (by rcases cutS_rd (.inl h) hc with h | ⟨o', h⟩; exact h; exact absurd h (by unfold Dt.cutS; split <;> simp_all))
theorem Fzs.cutS {vs : List V} {ds : List D} (hc : AllC B S) (n : D.noLs ds = true) : Fzs K B vs ds → Fzs K (cutS B S) vs ds
  | .nil => .nil
  | .cons h hs => by
    simp only [D.noLs, Bool.and_eq_true] at n
    exact .cons (Fz.cutS hc n.1 h) (Fzs.cutS hc n.2 hs)
end
theorem Its.cutS {m : Mk} {vs : List V} {ds : List D} {T : List Addr} (k : ∀ v d T, Tr K B H m v d T → lfN m d = true → Tr K (Dt.cutS B S) H m v d T) (h : Its (Tr K B H m) vs ds T) : ds.all (lfN m) = true → Its (Tr K (Dt.cutS B S) H m) vs ds T := by
  induction h with
  | nil => exact fun _ => .nil
  | cons a t ih =>
    intro n
    rw [List.all_cons, Bool.and_eq_true] at n
    exact .cons (k _ _ _ a n.1) (ih n.2)
mutual
theorem Tr.cutS (hc : AllC B S) : ∀ {m : Mk} {v : V} {d : D} {T : List Addr}, Tr K B H m v d T → lfN m d = true → Tr K (cutS B S) H m v d T
  | .z, _, _, _, h, n => by
    unfold Tr at h ⊢
    exact ⟨h.1.cutS hc (by simpa only [lfN] using n), h.2⟩
  | .l m, _, _, _, h, n => by
    unfold Tr at h ⊢
    obtain ⟨a, vs, ds, T, rfl, rfl, b, q, i, rfl⟩ := h
    exact ⟨a, vs, ds, T, rfl, rfl, cutS_n b, q, i.cutS (fun v d T t n => Tr.cutS hc (m := m) t n) (by simpa only [lfN] using n), rfl⟩
  | .t ms, _, _, _, h, n => by
    unfold Tr at h ⊢
    obtain ⟨a, vs, ds, rfl, rfl, b, i⟩ := h
    exact ⟨a, vs, ds, rfl, rfl, cutS_tup b hc, TrT.cutS hc (ms := ms) i (by simpa only [lfN] using n)⟩
  | .e m, _, d, _, h, n => by
    unfold Tr at h ⊢
    obtain ⟨a, o, vs, ds, T, rfl, b, q, x, i, rfl⟩ := h
    have n2 : ds.all (lfN m) = true := by
      cases d with
      | dic _ _ => obtain ⟨rfl, _⟩ := x; simpa only [lfN] using n
      | dct _ _ => obtain ⟨rfl, _⟩ := x; simpa only [lfN] using n
      | ins _ _ _ => obtain ⟨rfl, _⟩ := x; simpa only [lfN] using n
      | _ => exact x.elim
    exact ⟨a, o, vs, ds, T, rfl, cutS_n b, q, x, i.cutS (fun v d T t n => Tr.cutS hc (m := m) t n) n2, rfl⟩
  | .g m, _, _, _, h, n => by
    unfold Tr at h ⊢
    obtain ⟨S0, t, rfl⟩ := h
    exact ⟨S0, Tr.cutS hc (m := m) t (by simpa only [lfN] using n), rfl⟩
  | .h ms, _, _, _, h, n => by
    unfold Tr at h ⊢
    obtain ⟨a, vs, ds, T, rfl, rfl, b, q, i, rfl⟩ := h
    exact ⟨a, vs, ds, T, rfl, rfl, cutS_n b, q, TrT.cutS hc (ms := ms) i (by simpa only [lfN] using n), rfl⟩
theorem TrT.cutS (hc : AllC B S) : ∀ {ms : Mks} {vs : List V} {ds : List D} {T : List Addr}, TrT K B H ms vs ds T → lfT ms ds = true → TrT K (cutS B S) H ms vs ds T
  | .nil, _, _, _, h, _ => by
    unfold TrT at h ⊢
    exact h
  | .cons m r, _, _, _, h, n => by
    unfold TrT at h ⊢
    obtain ⟨v, vs, d, ds, S1, S2, rfl, rfl, t1, t2, rfl⟩ := h
    simp only [lfT, Bool.and_eq_true] at n
    exact ⟨v, vs, d, ds, S1, S2, rfl, rfl, Tr.cutS hc (m := m) t1 n.1, TrT.cutS hc (ms := r) t2 n.2, rfl⟩
end
theorem Ow.cutS {a : Addr} {d : D} (hc : AllC B S) (w : Ow K B H a d) (n : iNoL d = true) : Ow K (cutS B S) H a d := by
  cases d with
  | lst ds => obtain ⟨h, vs, q, f⟩ := w; exact ⟨cutS_n h, vs, q, f.cutS hc n⟩
  | dic ks ds => obtain ⟨h, vs, q, l, f⟩ := w; exact ⟨cutS_n h, vs, q, l, f.cutS hc n⟩
  | dct ks ds => obtain ⟨h, vs, q, l, f⟩ := w; exact ⟨cutS_n h, vs, q, l, f.cutS hc n⟩
  | ins c ks ds => obtain ⟨h, vs, C, dx, q, l, f, k⟩ := w; exact ⟨cutS_n h, vs, C, dx, q, l, f.cutS hc n, k⟩
  | _ => exact w.elim
theorem Ow.isC {a : Addr} {d : D} (w : Ow K B H a d) : ∃ o, H a = some o ∧ HO.isC o := by
  cases d with
  | lst ds => obtain ⟨h, vs, q, f⟩ := w; exact ⟨_, q, trivial⟩
  | dic ks ds => obtain ⟨h, vs, q, l, f⟩ := w; exact ⟨_, q, trivial⟩
  | dct ks ds => obtain ⟨h, vs, q, l, f⟩ := w; exact ⟨_, q, trivial⟩
  | ins c ks ds => obtain ⟨h, vs, C, dx, q, l, f⟩ := w; exact ⟨_, q, trivial⟩
  | _ => exact w.elim
mutual
theorem Tr.isC : ∀ {m : Mk} {v : V} {d : D} {T : List Addr}, Tr K B H m v d T → ∀ a ∈ T, ∃ o, H a = some o ∧ HO.isC o
  | .z, _, _, _, h => by
    unfold Tr at h
    rw [h.2]; exact fun a q => nomatch q
  | .l m, _, _, _, h => by
    unfold Tr at h
    obtain ⟨a, vs, ds, T, rfl, rfl, b, q, i, rfl⟩ := h
    intro x hx
    rcases List.mem_cons.mp hx with rfl | hx
    · exact ⟨_, q, trivial⟩
    · exact i.all (fun v d T r => Tr.isC (m := m) r) x hx
  | .t ms, _, _, _, h => by
    unfold Tr at h
    obtain ⟨a, vs, ds, rfl, rfl, b, i⟩ := h
    exact TrT.isC (ms := ms) i
  | .e m, _, d, _, h => by
    unfold Tr at h
    obtain ⟨a, o, vs, ds, T, rfl, b, q, bx, i, rfl⟩ := h
    intro x hx
    rcases List.mem_cons.mp hx with rfl | hx
    · refine ⟨_, q, ?_⟩
      cases d with
      | dic _ _ => obtain ⟨_, rfl, _⟩ := bx; trivial
      | dct _ _ => obtain ⟨_, rfl, _⟩ := bx; trivial
      | ins _ _ _ => obtain ⟨_, _, _, _, rfl, _⟩ := bx; trivial
      | _ => exact bx.elim
    · exact i.all (fun v d T r => Tr.isC (m := m) r) x hx
  | .g m, _, _, _, h => by
    unfold Tr at h
    obtain ⟨S0, t, rfl⟩ := h
    exact fun x hx => Tr.isC (m := m) t x (mem_dd.mp hx)
  | .h ms, _, _, _, h => by
    unfold Tr at h
    obtain ⟨a, vs, ds, T, rfl, rfl, b, q, i, rfl⟩ := h
    intro x hx
    rcases List.mem_cons.mp hx with rfl | hx
    · exact ⟨_, q, trivial⟩
    · exact TrT.isC (ms := ms) i x hx
theorem TrT.isC : ∀ {ms : Mks} {vs : List V} {ds : List D} {T : List Addr}, TrT K B H ms vs ds T → ∀ a ∈ T, ∃ o, H a = some o ∧ HO.isC o
  | .nil, _, _, _, h => by
    unfold TrT at h
    rw [h.2.2]; exact fun a q => nomatch q
  | .cons m r, _, _, _, h => by
    unfold TrT at h
    obtain ⟨v, vs, d, ds, S1, S2, rfl, rfl, t1, t2, rfl⟩ := h
    exact fun x hx => (List.mem_append.mp hx).elim (Tr.isC (m := m) t1 x) (TrT.isC (ms := r) t2 x)
end
theorem Ft.isC {v : V} {s : Slot} (h : Ft K B H v s S) : ∀ a ∈ S, ∃ o, H a = some o ∧ HO.isC o := by
  cases s with
  | un => exact h.elim
  | fz _ => exact h.elim
  | ow d => obtain ⟨a, rfl, w, rfl⟩ := h; intro x hx; rw [List.mem_singleton.mp hx]; exact w.isC
  | io d => obtain ⟨a, rfl, w, rfl⟩ := h; intro x hx; rw [List.mem_singleton.mp hx]; exact w.isC
  | dp m d => exact h.1.isC
end
def thG (s0 s : Slot) : Prop := match s with
  | .un => True
  | .fz d => s0 = .fz d ∨ d.noL = true
  | .ow d => iNoL d = true
  | .io d => iNoL d = true
  | .dp m d => lfN m d = true
def thH : List Slot → List Slot → Prop
  | s0 :: r0, s :: r => thG s0 s ∧ thH r0 r
  | [], [] => True
  | _, _ => False
theorem thH_get : ∀ {r0 r : List Slot}, thH r0 r → ∀ {j : Nat} {s : Slot}, r[j]? = some s → ∃ s0, r0[j]? = some s0 ∧ thG s0 s
  | [], [], _, j, s, e => by simp at e
  | [], _ :: _, h, _, _, _ => h.elim
  | _ :: _, [], h, _, _, _ => h.elim
  | s0 :: r0, s1 :: r, h, 0, s, e => by simp at e; subst e; exact ⟨s0, rfl, h.1⟩
  | s0 :: r0, s1 :: r, h, j + 1, s, e => by
    obtain ⟨q, h1, h2⟩ := thH_get h.2 (j := j) (s := s) (by simpa using e)
    exact ⟨q, by simpa using h1, h2⟩
open Classical in
noncomputable def mTh {α : Type} (g : α → Prop) (i : Nat) (f : M α) : M α := fun ρ => match ρ[i]? with
  | some s => if owned s = true then match f (ρ.set i (.fz s.dat)) with
    | .ok b ρ1 => if thH ρ (ρ1.set i .un) ∧ g b then .ok b (ρ1.set i s) else .fail
    | .rz c ρ1 => .rz c ρ1
    | .fail => .fail
    else .fail
  | none => .fail
section
variable {X : Cx} {W : WX} {e : Expr} {i : Nat} {K : PySem.W.Frag} {F : Fr} {ρ ρ1 : Env} {σ : St} {B H B' H' : Hp} {s : Slot} {v : V} {S : List Addr}
theorem Lv.thawC (w : Ft K B H v s S) (eB : Ex (frzB B H S) B') : AllC B' S := fun a ha => by
  obtain ⟨o, q, c⟩ := w.isC a ha
  exact ⟨o, eB a o (by rw [frzB_in ha]; exact q), c⟩
theorem Lv.thawE (L : Lv K F ρ σ B H) (w : Ft K B H v s S) (eB : Ex (frzB B H S) B') : Ex B (cutS B' S) := fun x u q => by
  have ne : x ∉ S := fun z => by rw [(w.hid x z).1] at q; cases q
  rw [cutS_out ne]
  exact eB x u (frzB_ex L.ex x u q)
theorem Ft.cut {s1 : Slot} {T : List Addr} {v : V} {s0 : Slot} (hc : AllC B' S) (t : thG s0 s1) (f : Ft K B' H' v s1 T) : Ft K (cutS B' S) H' v s1 T := by
  cases s1 with
  | un => exact f.elim
  | fz _ => exact f.elim
  | ow d => obtain ⟨b, e1, w, e2⟩ := f; exact ⟨b, e1, w.cutS hc t, e2⟩
  | io d => obtain ⟨b, e1, w, e2⟩ := f; exact ⟨b, e1, w.cutS hc t, e2⟩
  | dp m d => exact ⟨f.1.cutS hc t, f.2⟩
theorem Lv.thawS (L : Lv K F ρ σ B H) (e : ρ[i]? = some s) (hsig : σ[i]? = some (some v)) (w : Ft K B H v s S) (g : ∀ a ∈ S, F.A a ∨ F.H0 a = none)
    (M : Lv K F ρ1 σ B' H') (eB : Ex (frzB B H S) B') (ka : ∀ a ∈ S, ∀ o, H a = some o → H' a = some o) (th : thH ρ (ρ1.set i .un)) :
    Lv K F (ρ1.set i s) σ (cutS B' S) H' ∧ ∀ a, B' a = none → ¬ OwS K B' H' ρ1 σ a → ¬ OwS K (cutS B' S) H' (ρ1.set i s) σ a := by
  have hC := Lv.thawC w eB
  have exB := L.thawE w eB
  have hBS : ∀ a ∈ S, B' a ≠ none := fun a ha => by obtain ⟨o, q, _⟩ := hC a ha; rw [q]; simp
  have exH : Ex (cutS B' S) H' := fun x u q => by
    unfold cutS at q
    split at q
    · cases q
    · exact M.ex x u q
  have li : i < ρ1.length := by
    have h1 := (List.getElem?_eq_some_iff.mp e).1
    rw [L.len] at h1; rw [M.len]; exact h1
  have thj : ∀ {j : Nat} {s : Slot}, j ≠ i → ρ1[j]? = some s → ∃ s0, ρ[j]? = some s0 ∧ thG s0 s := fun {j s} ne q => thH_get th (by rw [List.getElem?_set_ne (Ne.symm ne)]; exact q)
  have wi : Ft K (cutS B' S) H' v s S := w.keep exB (fun a ha => cutS_in ha) ka
  have naS : ∀ {j : Nat} {s : Slot} {v : V} {T : List Addr}, Ft K B' H' v s T → ∀ a ∈ T, a ∉ S := fun f a ha z => hBS a z (f.hid a ha).1
  -- an owned slot under the cut, from behind
  have up : ∀ {j : Nat} {s1 : Slot} {v : V} {T : List Addr}, j ≠ i → ρ1[j]? = some s1 → σ[j]? = some (some v) → Ft K (cutS B' S) H' v s1 T → Ft K B' H' v s1 T := fun {j s1 v T} ne q hs f => by
    obtain ⟨v', T', h1, f', _⟩ := M.own0 j s1 q f.owned
    rw [hs] at h1; injection h1 with h1; injection h1 with h1; subst h1
    obtain ⟨s0, _, t⟩ := thj ne q
    have := f.det (f'.cut hC t)
    rw [this]; exact f'
  refine ⟨⟨exH, M.kept, M.there, L.exB.trans exB, fun x h1 h2 h3 => ?_, fun j d' q => ?_, fun j s1 q ho => ?_, fun j d' q => ?_, fun j k s1 t1 v1 u T1 T2 x q1 q2 g1 g2 f1 f2 m1 m2 => ?_, by rw [List.length_set]; exact M.len⟩, fun a na no h => ?_⟩
  · exact cutS_n (M.hid x h1 h2 h3)
  · rcases get_set q with ⟨rfl, z, _⟩ | ⟨ne, q⟩
    · subst z; exact w.elim
    · obtain ⟨s0, h1, t⟩ := thj ne q
      rcases t with t | t
      · subst t
        obtain ⟨v, h2, f⟩ := L.fz j d' h1
        exact ⟨v, h2, f.mono exB⟩
      · obtain ⟨v, h2, f⟩ := M.fz j d' q
        exact ⟨v, h2, f.cutS hC t⟩
  · rcases get_set q with ⟨rfl, z, _⟩ | ⟨ne, q⟩
    · subst z
      exact ⟨v, S, hsig, wi, g⟩
    · obtain ⟨v, T, h1, f, h2⟩ := M.own0 j s1 q ho
      obtain ⟨s0, _, t⟩ := thj ne q
      exact ⟨v, T, h1, f.cut hC t, h2⟩
  · rcases get_set q with ⟨rfl, z, _⟩ | ⟨ne, q⟩
    · subst z; exact L.io j d' e
    · exact M.io j d' q
  · rcases get_set q1 with ⟨rfl, z, _⟩ | ⟨ne, q1'⟩
    · rcases get_set q2 with ⟨rfl, z2, _⟩ | ⟨ne2, q2'⟩
      · rfl
      · rw [hsig] at g1; injection g1 with g1; injection g1 with g1; subst g1
        rw [z] at f1
        rw [f1.det wi] at m1
        exact absurd m1 (naS (j := k) (up ne2 q2' g2 f2) x m2)
    · rcases get_set q2 with ⟨z0, z, _⟩ | ⟨ne2, q2'⟩
      · subst z0
        rw [hsig] at g2; injection g2 with g2; injection g2 with g2; subst g2
        rw [z] at f2
        rw [f2.det wi] at m2
        exact absurd m2 (naS (j := j) (up ne q1' g1 f1) x m1)
      · exact M.ne0 j k s1 t1 v1 u T1 T2 x q1' q2' g1 g2 (up ne q1' g1 f1) (up ne2 q2' g2 f2) m1 m2
  · obtain ⟨j, s1, v1, T, q, hs, f, m⟩ := h
    rcases get_set q with ⟨rfl, z, _⟩ | ⟨ne, q⟩
    · subst z
      rw [hsig] at hs; injection hs with hs; injection hs with hs; subst hs
      rw [f.det wi] at m
      exact hBS a m na
    · exact no ⟨j, s1, v1, T, q, hs, up ne q hs f, m⟩
structure Thd (K : PySem.W.Frag) (F F' : Fr) (ρ1 ρ2 : Env) (σ : St) (B B' B2 H' : Hp) (S : List Addr) : Prop where
  eq : B2 = cutS B' S
  ex : Ex B B2
  hc : AllC B' S
  no : ∀ a, B' a = none → ¬ OwS K B' H' ρ1 σ a → ¬ OwS K B2 H' ρ2 σ a
  fr : ∀ a, F'.A a ∨ F'.H0 a = none → F.A a ∨ F.H0 a = none
  P : F'.P = F.P
theorem Post.thaw {α : Type} {g : α → Prop} {f : M α} {G : α → Env → Hp → Hp → Prop} (L : Lv X.K F ρ σ B H) (P : Post X W F σ B (mTh g i f ρ) G) :
    ∃ F' B1 ρ0, Lv X.K F' ρ0 σ B1 H ∧ Post X W F' σ B1 (f ρ0) (fun b ρ1 B' H' => g b ∧ ∃ S ρ2 B2, Thd X.K F F' ρ1 ρ2 σ B B' B2 H' S ∧ G b ρ2 B2 H') := by
  unfold mTh at P
  split at P
  · rename_i s e1
    split at P
    · rename_i ow
      obtain ⟨v, S, hsig, w, g0⟩ := L.own0 i s e1 ow
      obtain ⟨v0, S0, q0, f0, g0', no0, L1⟩ := L.take e1 ow
      rw [hsig] at q0; injection q0 with q0; injection q0 with q0; subst q0
      have eS : S0 = S := f0.det w
      subst eS
      have hf : Fz X.K (frzB B H S0) v s.dat := by
        have flt : ∀ {a : Addr} {d : D}, v = .ref a → Ow X.K B H a d → S0 = [a] → Fz X.K (frzB B H S0) v d := by
          intro a d e1 w1 e2
          subst e1; subst e2
          obtain ⟨o, h1, h2⟩ := w1.fz
          refine h2.mono fun b u hb => ?_
          by_cases z : b = a
          · subst z; rw [upd_same] at hb; rw [frzB_in (by simp), h1]; exact hb
          · rw [upd_ne z] at hb; rw [frzB_out (by simpa using z)]; exact hb
        cases s with
        | un => cases ow
        | fz _ => cases ow
        | ow d => obtain ⟨a, e1, w1, e2⟩ := w; exact flt e1 w1 e2
        | io d => obtain ⟨a, e1, w1, e2⟩ := w; exact flt e1 w1 e2
        | dp m d => exact w.1.fz L.ex fun a m => m
      have L2 : Lv X.K F (ρ.set i (.fz s.dat)) σ (frzB B H S0) H := by
        have h1 := L1.freezeS g0 no0
        have h2 := h1.slot (i := i) (t := .fz s.dat) rfl (fun d' z _ => by injection z with z; subst z; exact ⟨_, hsig, hf⟩)
        rw [List.set_set] at h2
        exact h2
      have nA : ∀ a ∈ S0, ¬ OwS X.K (frzB B H S0) H (ρ.set i (.fz s.dat)) σ a := fun a ha z => by
        have := (L2.hidOw z).1
        rw [frzB_in ha] at this
        exact (w.hid a ha).2.ne this
      refine ⟨_, _, _, L2.nest, ?_⟩
      cases q : f (ρ.set i (.fz s.dat)) with
      | fail => simp only [q] at P; exact P.elim
      | rz c ρ1 =>
        simp only [q] at P
        exact fun B' H' eB M => P B' H' ((frzB_ex L.ex).trans eB) (L2.back M)
      | ok b ρ1 =>
        simp only [q] at P
        split at P
        · rename_i th
          intro B' H' eB M
          have ka : ∀ a ∈ S0, ∀ o, H a = some o → H' a = some o := fun a ha o q => M.kept a o q (nA a ha)
          obtain ⟨x2, x3⟩ := L.thawS e1 hsig w g0 (L2.back M) eB ka th.1
          exact ⟨th.2, S0, _, _, ⟨rfl, L.thawE w eB, Lv.thawC w eB, x3, fun a h => h.elim (fun h => L2.ofOw h) (fun h => .inr (L2.free h)), rfl⟩, P _ H' (L.thawE w eB) x2⟩
        · exact P.elim
    · exact P.elim
  · exact P.elim
theorem et_th (i : Nat) {t : M Bool} (h : ET X W e t) : ET X W e (mTh (fun _ => True) i t) := by
  intro F ρ σ B H Q L P
  obtain ⟨F', B1, ρ0, L1, P1⟩ := Post.thaw L P
  exact h F' ρ0 σ B1 H Q L1 (P1.imp fun b ρ1 B' H' e M hG => by obtain ⟨_, S, ρ2, B2, t, hG⟩ := hG; exact hG)
def thV (d : D) : Prop := d.noL = true
theorem ev_th (i : Nat) {f : M D} (h : EV X W e f) : EV X W e (mTh thV i f) := by
  intro F ρ σ B H Q L P
  obtain ⟨F', B1, ρ0, L1, P1⟩ := Post.thaw L P
  exact h F' ρ0 σ B1 H Q L1 (P1.imp fun b ρ1 B' H' e M hG v fv => by
    obtain ⟨n, S, ρ2, B2, t, hG⟩ := hG
    obtain ⟨rfl, _, hc, _⟩ := t
    exact hG v (fv.cutS hc n))
end
def VT (K : PySem.W.Frag) (F : Fr) (ρ : Env) (σ : St) (B H : Hp) (vs : List V) (p : List D × Mks) : Prop := ∃ S, TrT K B H p.2 vs p.1 S ∧ S.Nodup ∧ ∀ a ∈ S, (F.A a ∨ F.H0 a = none) ∧ ¬ OwS K B H ρ σ a
def EAO (X : Cx) (W : WX) (es : List Expr) (f : M (List D × Mks)) : Prop := ∀ (F : Fr) (ρ : Env) (σ : St) (B H : Hp) (Q : List V → Hp → Prop), Lv X.K F ρ σ B H →
  Post X W F σ B (f ρ) (fun p ρ' B' H' => ∀ vs, VT X.K F ρ' σ B' H' vs p → Q vs H') → wa X es σ H Q
def oNil : M (List D × Mks) := M.pure ([], .nil)
def oF (f : M D) (g : M (List D × Mks)) : M (List D × Mks) := M.bind f fun x => M.bind g fun p => M.pure (x :: p.1, .cons .z p.2)
def oW (f : M (D × Ob)) (g : M (List D × Mks)) : M (List D × Mks) := M.bind f fun x => match obMk x.2 x.1 with
  | some m => M.bind g fun p => M.pure (x.1 :: p.1, .cons m p.2)
  | none => M.fail
def oS (i : Nat) (g : M (List D × Mks)) : M (List D × Mks) := fun ρ => match ρ[i]? with
  | some s => if owned s = true then match g ρ with
    | .ok p ρ1 => match ρ1[i]? with
      | some (.ow (.lst ds)) => .ok (.lst ds :: p.1, .cons (.l .z) p.2) (ρ1.set i .un)
      | some (.dp m d) => .ok (d :: p.1, .cons m p.2) (ρ1.set i .un)
      | _ => .fail
    | .rz c ρ1 => .rz c ρ1
    | .fail => .fail
    else .fail
  | none => .fail
section
variable {X : Cx} {W : WX} {e : Expr} {pos : Pos}
theorem eao_nil : EAO X W [] oNil := fun F ρ σ B H Q L P => PA.wa pa_nil (P B H (Ex.refl _) L [] ⟨[], by unfold TrT; exact ⟨rfl, rfl, rfl⟩, .nil, fun a h => nomatch h⟩)
theorem eao_f {es : List Expr} {f : M D} {g : M (List D × Mks)} (ha : EV X W e f) (hr : EAO X W es g) (hs : starEach (e :: es) X.env = (false, eval e X.env) :: starEach es X.env := by exact star_un rfl) : EAO X W (e :: es) (oF f g) := by
  intro F ρ σ B H Q L P
  refine PA.wa (pa_cons pe_we pa_wa hs) ?_
  refine ha F ρ σ B H _ L ((Post.bind P).imp fun dx ρ1 B1 H1 e1 L1 P1 x fx => ?_)
  refine hr F ρ1 σ B1 H1 _ L1 ((Post.bind P1).imp fun p ρ2 B2 H2 e2 L2 P2 xs fs => ?_)
  obtain ⟨S, t, nd, g⟩ := fs
  exact P2 B2 H2 (Ex.refl _) L2 _ ⟨S, by unfold TrT; exact ⟨x, xs, dx, p.1, [], S, rfl, rfl, by unfold Tr; exact ⟨fx.mono e2, rfl⟩, t, rfl⟩, nd, g⟩
theorem Post.nestL {α : Type} {F : Fr} {ρ : Env} {σ : St} {B H : Hp} {r : Rs α} {G : α → Env → Hp → Hp → Prop} (L : Lv X.K F ρ σ B H) (P : Post X W F σ B r G) : Post X W ⟨B, H, OwS X.K B H ρ σ, F.P⟩ σ B r (fun a ρ' B' H' => Lv X.K F ρ' σ B' H' ∧ G a ρ' B' H') := by
  cases r with
  | ok a ρ' => exact fun B' H' e M => ⟨L.back M, P B' H' e (L.back M)⟩
  | rz c ρ' => exact fun B' H' e M => P B' H' e (L.back M)
  | fail => exact P
theorem eao_w {es : List Expr} {f : M (D × Ob)} {g : M (List D × Mks)} (ha : EO X W e f) (hr : EAO X W es g) (hs : starEach (e :: es) X.env = (false, eval e X.env) :: starEach es X.env := by exact star_un rfl) : EAO X W (e :: es) (oW f g) := by
  intro F ρ σ B H Q L P
  refine PA.wa (pa_cons pe_we pa_wa hs) ?_
  refine ha F ρ σ B H _ L ((Post.bind P).imp fun dx ρ1 B1 H1 e1 L1 P1 x wx => ?_)
  cases hm : obMk dx.2 dx.1 with
  | none => simp only [hm] at P1; exact P1.elim
  | some m =>
    simp only [hm] at P1
    obtain ⟨S1, t1, nd1, g1⟩ := wx.tr hm
    refine hr _ ρ1 σ B1 H1 _ L1.nest ((Post.nestL L1 (Post.bind P1)).imp fun p ρ2 B2 H2 e2 M2 hh xs fs => ?_)
    obtain ⟨L2, P2⟩ := hh
    obtain ⟨S2, t2, nd2, g2⟩ := fs
    have k1 : ∀ a ∈ S1, B2 a = none := fun a ha => M2.hid a (t1.hid a ha).1 (t1.hid a ha).2 (g1 a ha).2
    have k2 : ∀ a ∈ S1, ∀ o, H1 a = some o → H2 a = some o := fun a ha o q => M2.kept a o q (g1 a ha).2
    refine P2 B2 H2 (Ex.refl _) L2 _ ⟨S1 ++ S2, ?_, ?_, fun a ha => ?_⟩
    · unfold TrT
      exact ⟨x, xs, dx.1, p.1, S1, S2, rfl, rfl, t1.keep e2 k1 k2, t2, rfl⟩
    · refine List.nodup_append.mpr ⟨nd1, nd2, fun a ha b hb z => ?_⟩
      subst z
      rcases (g2 a hb).1 with h | h
      · exact (g1 a ha).2 h
      · exact (t1.hid a ha).2.ne h
    · rcases List.mem_append.mp ha with ha | ha
      · refine ⟨(g1 a ha).1, fun z => ?_⟩
        rcases M2.ofOw z with h | h
        · exact (g1 a ha).2 h
        · exact (t1.hid a ha).2.ne h
      · refine ⟨?_, (g2 a ha).2⟩
        rcases (g2 a ha).1 with h | h
        · exact L1.ofOw h
        · exact .inr (L1.free h)
theorem eao_s (i : Nat) {es : List Expr} {g : M (List D × Mks)} {x : Str} (hr : EAO X W es g) (hN : X.N[i]? = some x := by rfl) (hv : Vis X.env.scope x := by first | exact Or.inl rfl | exact Or.inr (Or.inl rfl) | exact Or.inr (Or.inr rfl)) (hd : (x == ("__debug__" : Str)) = false := by decide)
    (hcd : (x == ("__classdict__" : Str)) = false := by decide) (hs : starEach (.Name x pos :: es) X.env = (false, eval (.Name x pos) X.env) :: starEach es X.env := by rfl) : EAO X W (.Name x pos :: es) (oS i g) := by
  intro F ρ σ B H Q L P
  refine PA.wa (pa_cons (pe_var hN hv hd hcd) pa_wa hs) ?_
  unfold oS at P
  split at P
  · rename_i s e0
    split at P
    · rename_i ow
      obtain ⟨v0, S0, q0, f0, _⟩ := L.own0 i s e0 ow
      refine ⟨v0, q0, ?_⟩
      refine hr F ρ σ B H _ L ?_
      cases q : g ρ with
      | fail => simp only [q] at P; exact P.elim
      | rz c ρ1 => simp only [q] at P; exact P
      | ok p ρ1 =>
        simp only [q] at P
        intro B1 H1 e1 L1 vs fs
        obtain ⟨S2, t2, nd2, g2⟩ := fs
        have fin : ∀ {s1 : Slot} {m : Mk} {S1 : List Addr}, ρ1[i]? = some s1 → owned s1 = true → Ft X.K B1 H1 v0 s1 S1 → Tr X.K B1 H1 m v0 s1.dat S1 → (∀ a ∈ S1, F.A a ∨ F.H0 a = none) → (∀ a ∈ S1, ¬ OwS X.K B1 H1 (ρ1.set i .un) σ a) → S1.Nodup → VT X.K F (ρ1.set i .un) σ B1 H1 (v0 :: vs) (s1.dat :: p.1, .cons m p.2) := by
          intro s1 m S1 h1 ow1 f1 t1 g1 no1 nd1
          refine ⟨S1 ++ S2, ?_, ?_, fun a ha => ?_⟩
          · unfold TrT
            exact ⟨v0, vs, s1.dat, p.1, S1, S2, rfl, rfl, t1, t2, rfl⟩
          · refine List.nodup_append.mpr ⟨nd1, nd2, fun a ha b hb z => ?_⟩
            subst z
            exact (g2 a hb).2 ⟨i, s1, v0, S1, h1, q0, f1, ha⟩
          · rcases List.mem_append.mp ha with ha | ha
            · exact ⟨g1 a ha, no1 a ha⟩
            · refine ⟨(g2 a ha).1, fun z => (g2 a ha).2 ?_⟩
              obtain ⟨j, s', v', S', n, e', q', f', m'⟩ := z.un
              exact ⟨j, s', v', S', e', q', f', m'⟩
        split at P
        · rename_i ds h1
          obtain ⟨v1, S1, q1, f1, g1, no1, L3⟩ := L1.take h1 rfl
          rw [q0] at q1; injection q1 with q1; injection q1 with q1; subst q1
          obtain ⟨a, rfl, w, rfl⟩ := f1
          have vo : VO X.K F (ρ1.set i .un) σ B1 H1 (.ref a) (.lst ds) .tt := ⟨a, rfl, w, g1 a (by simp), no1 a (by simp)⟩
          obtain ⟨S1, t1, nd1, g1'⟩ := vo.tr (m := .l .z) rfl
          have f1' : Ft X.K B1 H1 (.ref a) (.ow (.lst ds)) S1 := by
            unfold Tr at t1
            obtain ⟨a', vs', ds', T, e1, e2, b, q, it, rfl⟩ := t1
            injection e1 with e1; subst e1
            obtain ⟨_, rfl⟩ := it.z
            exact ⟨a, rfl, w, rfl⟩
          exact P B1 H1 e1 L3 _ (fin (s1 := .ow (.lst ds)) h1 rfl f1' t1 (fun a ha => (g1' a ha).1) (fun a ha => (g1' a ha).2) nd1)
        · rename_i m d h1
          obtain ⟨v1, S1, q1, f1, g1, no1, L3⟩ := L1.take h1 rfl
          rw [q0] at q1; injection q1 with q1; injection q1 with q1; subst q1
          exact P B1 H1 e1 L3 _ (fin (s1 := .dp m d) h1 rfl f1 f1.1 g1 no1 f1.2)
        · exact P.elim
    · exact P.elim
  · exact P.elim
def mTupO (f : M (List D × Mks)) : M (D × Ob) := M.bind f fun p => M.opt (if p.1.length ≤ 10000 then some (.tup p.1, .dp (.t p.2)) else none)
theorem eo_tupO {es : List Expr} {k : Nat} {f : M (List D × Mks)} (ha : EAO X W es f) : EO X W (.Tuple es k pos) (mTupO f) := by
  intro F ρ σ B H Q L P
  refine PE.we (pe_tup pa_wa) ?_
  refine ha F ρ σ B H _ L ((Post.bind P).imp fun p ρ1 B1 H1 e1 L1 P1 xs fs => ?_)
  obtain ⟨d, hd, k⟩ := P1.opt
  split at hd
  · injection hd with hd; subst hd
    obtain ⟨S, t, nd, g⟩ := fs
    refine ⟨len_line (by rw [t.len]; omega), fun q hq => ?_⟩
    have nB := L1.ex.nn hq
    have nq : ∀ {a : Addr}, Ct H1 a → a ≠ q := fun h z => h.ne (z ▸ hq)
    refine k (upd B1 q (.tup xs)) _ (Ex.new nB) (L1.alloc hq) _ ⟨S, ?_, nd, fun a ha => ⟨(g a ha).1, fun z => (g a ha).2 (z.back L1 (Ex.new nB) fun b w => ?_)⟩⟩
    · show Tr X.K (upd B1 q (.tup xs)) (upd H1 q (.tup xs)) (.t p.2) (.ref q) (.tup p.1) S
      unfold Tr
      exact ⟨q, xs, p.1, rfl, rfl, upd_same, t.keep (Ex.new nB) (fun a ha => by rw [upd_ne (nq (t.hid a ha).2)]; exact (t.hid a ha).1) (fun a ha o e => by rw [upd_ne (nq (t.hid a ha).2)]; exact e)⟩
    · have h := L1.hidOw w
      exact ⟨by rw [upd_ne (nq h.2)]; exact h.1, fun u e => by rw [upd_ne (nq h.2)]; exact e⟩
  · cases hd
end
section
variable {ρ ρ1 ρ2 : Env} {i n : Nat} {α β : Type} {b : α}
theorem t_th {g : α → Prop} {f : M α} {s : Slot} (h : ρ[i]? = some s) (ow : owned s = true) (hf : f (ρ.set i (.fz s.dat)) = .ok b ρ1) (th : thH ρ (ρ1.set i .un)) (hg : g b) (hr : ρ1.set i s = ρ2) : mTh g i f ρ = .ok b ρ2 := by
  unfold mTh
  rw [h]; dsimp only; rw [if_pos ow, hf]; dsimp only; rw [if_pos ⟨th, hg⟩, hr]
theorem o0 : oNil ρ = .ok ([], .nil) ρ := rfl
theorem oF1 {f : M D} {g : M (List D × Mks)} {x : D} {xs : List D} {ms : Mks} (h1 : f ρ = .ok x ρ1) (h2 : g ρ1 = .ok (xs, ms) ρ2) : oF f g ρ = .ok (x :: xs, .cons .z ms) ρ2 := by
  unfold oF M.bind; rw [h1]; dsimp only; rw [h2]; rfl
theorem oW1 {f : M (D × Ob)} {g : M (List D × Mks)} {x : D} {o : Ob} {m : Mk} {xs : List D} {ms : Mks} (h1 : f ρ = .ok (x, o) ρ1) (hm : obMk o x = some m) (h2 : g ρ1 = .ok (xs, ms) ρ2) : oW f g ρ = .ok (x :: xs, .cons m ms) ρ2 := by
  unfold oW M.bind; rw [h1]; dsimp only; rw [hm]; dsimp only; rw [h2]; rfl
theorem oS1 {g : M (List D × Mks)} {ds : List D} {s : Slot} {xs : List D} {ms : Mks} (h0 : ρ[i]? = some s) (ow : owned s = true) (h : g ρ = .ok (xs, ms) ρ1) (h2 : ρ1[i]? = some (.ow (.lst ds))) (hr : ρ1.set i .un = ρ2) : oS i g ρ = .ok (.lst ds :: xs, .cons (.l .z) ms) ρ2 := by
  unfold oS; rw [h0]; dsimp only; rw [if_pos ow, h]; dsimp only; rw [h2, hr]
theorem oS2 {g : M (List D × Mks)} {d : D} {m : Mk} {s : Slot} {xs : List D} {ms : Mks} (h0 : ρ[i]? = some s) (ow : owned s = true) (h : g ρ = .ok (xs, ms) ρ1) (h2 : ρ1[i]? = some (.dp m d)) (hr : ρ1.set i .un = ρ2) : oS i g ρ = .ok (d :: xs, .cons m ms) ρ2 := by
  unfold oS; rw [h0]; dsimp only; rw [if_pos ow, h]; dsimp only; rw [h2, hr]
theorem mtupO {f : M (List D × Mks)} {xs : List D} {ms : Mks} (h : f ρ = .ok (xs, ms) ρ1) (hl : Nat.ble xs.length 10000 = true := by rfl) : mTupO f ρ = .ok (.tup xs, .dp (.t ms)) ρ1 := by
  unfold mTupO M.bind; rw [h]; dsimp only; rw [if_pos (Nat.le_of_ble_eq_true hl)]; rfl
end
end Dt
namespace Dt
open PySem PySem.Spec PyProof.Rows L2
section
variable {ρ ρ1 ρ2 ρ3 ρ4 ρ5 : Env} {i : Nat} {α β γ δ : Type} {F : α → D} {G : β → D} {J : γ → D} {L : δ → D}
end
end Dt
namespace Dt
open PySem PySem.Spec PyProof.Rows L2
end Dt
namespace Dt
open PySem PySem.Spec PyProof.Rows L2
instance decMemT {z : List L2.Key} {ks : List (List L2.Key)} : Decidable (z ∈ ks) := decidable_of_iff ((ks.any fun k => decide (k = z)) = true) (by
  rw [List.any_eq_true]
  exact ⟨fun ⟨x, h1, h2⟩ => by rw [← of_decide_eq_true h2]; exact h1, fun h => ⟨z, h, decide_eq_true rfl⟩⟩)
section
variable {K : PySem.W.Frag} {B H : Hp}
end
section
variable {X : Cx} {W : WX} {e a b kx : Expr} {pos : Pos} {i : Nat} {x : Str} {px : Pos} {K : PySem.W.Frag}
end
section
variable {X : Cx} {W : WX} {e a b kx dx : Expr} {pos : Pos} {i : Nat} {x : Str} {px : Pos}
end
section
variable {X : Cx} {W : WX} {e a : Expr} {pos p : Pos}
end
section
variable {α : Type} {F : α → D} {l : List (List Int × α)} {z : List Int} {v : α} {ρ ρ1 ρ2 ρ3 : Env} {i : Nat} {fe fk fd : M D} {fs : M (List D)}
end
end Dt
namespace Dt
open PySem PySem.Spec PyProof.Rows L2
section
variable {K : PySem.W.Frag} {F : Fr} {ρ ρ' : Env} {σ σ' : St} {B H B' H' : Hp}
theorem Lv.moreA {A : Addr → Prop} (L : Lv K F ρ σ B H) (h : ∀ a, F.A a → A a) : Lv K ⟨F.B0, F.H0, A, F.P⟩ ρ σ B H :=
  ⟨L.ex, fun a o e n => L.kept a o e fun z => n (h a z), L.there, L.exB, fun a e n k => L.hid a e n fun z => k (h a z), L.fz, fun i s e w => by
    obtain ⟨v, S, e1, f, g⟩ := L.own0 i s e w
    exact ⟨v, S, e1, f, fun a m => (g a m).imp (h a) id⟩, L.io, L.ne0, L.len⟩
theorem Lv.backX {A : Addr → Prop} (L : Lv K F ρ σ B H) (M : Lv K ⟨B, H, A, F.P⟩ ρ' σ' B' H') (own : ∀ a, A a → F.A a ∨ F.H0 a = none) : Lv K F ρ' σ' B' H' := by
  refine ⟨M.ex, fun a o e n => ?_, fun a e => M.there a (L.there a e), L.exB.trans M.exB, fun a e n k => ?_, M.fz, fun i s e w => ?_, M.io, M.ne0, M.len⟩
  · refine M.kept a o (L.kept a o e n) fun z => ?_
    rcases own a z with q | q
    · exact n q
    · rw [q] at e; cases e
  · have h1 := L.hid a e n k
    refine M.hid a h1 (n.to fun o q => L.kept a o q k) fun z => ?_
    · rcases own a z with q | q
      · exact k q
      · exact n.ne q
  · obtain ⟨v, S, e1, f, g⟩ := M.own0 i s e w
    refine ⟨v, S, e1, f, fun a m => ?_⟩
    rcases g a m with g | g
    · exact own a g
    · by_cases k : F.A a
      · exact .inl k
      · refine .inr ?_
        cases q : F.H0 a with
        | none => rfl
        | some u => have z := L.kept a u q k; rw [show H a = none from g] at z; cases z
end
section
variable {X : Cx} {W : WX} {elt iter : Expr} {scope : Scope} {own : List (Str × Nat)} {pos px : Pos} {f : M (D × Ob)}
end
section
variable {X : Cx} {W : WX} {e : Expr}
end
section
variable {ρ ρ0 ρ1 ρ9 : Env} {α β : Type} {F : α → D} {G : β → D} {own : List Nat} {m n : Mk} {i : Nat} {e : M (D × Ob)} {f : M (D × Ob)} {o : Ob}
end
end Dt
namespace Dt
open PySem PySem.Spec PyProof.Rows L2
def mEnAppL (ik io : Nat) (fe : M D) : Nat → List D → List D → M (List D)
  | _, [], acc => fun ρ => .ok acc ρ
  | k, .lst xs :: ds, acc => fun ρ => match fe ((ρ.set ik (.fz (.int (k : Int)))).set io .un) with
    | .ok p ρ1 => if xs.length < 10000 ∧ io < ρ.length then mEnAppL ik io fe (k + 1) ds (acc ++ [.lst (xs ++ [p])]) ρ1 else .fail
    | _ => .fail
  | _, _ :: _, _ => fun _ => .fail
def mEnApp (i ik io : Nat) (fe : M D) : M Fl := fun ρ => match ρ[i]? with
  | some (.dp (.l (.l .z)) (.lst ds)) => match mEnAppL ik io fe 0 ds [] (ρ.set i .un) with
    | .ok acc ρ1 => .ok .nx (ρ1.set i (.dp (.l (.l .z)) (.lst acc)))
    | _ => .fail
  | _ => .fail
section
variable {X : Cx} {W : WX} {e : Expr}
theorem sv_enApp {i ik io : Nat} {x y kx : Str} {fe : M D} {k2 : Nat} {pz px py pk pc pos p2 epos apos cpos py2 : Pos}
    (hp : PassesOwn (model X.prog X.w) X.A X.env X.xe) (hc : X.calm = true) (hm : X.mg "enumerate" = none) (h2 : GV X (.Tuple [.Name kx pk, .Name y py] k2 p2) [ik, io] (gT 2 (gsC (gN ik) (gsC (gN io) gsN)))) (he : EV X W e fe)
    (hn1 : i ≠ ik := by decide) (hn2 : i ≠ io := by decide) (hn3 : ik ≠ io := by decide) (hg : Gl X "enumerate" := by rfl) (hx : X.N[i]? = some x := by rfl) (hvx : Vis X.env.scope x := by first | exact Or.inl rfl | exact Or.inr (Or.inl rfl) | exact Or.inr (Or.inr rfl)) (hdx : (x == ("__debug__" : Str)) = false := by decide) (hcx : (x == ("__classdict__" : Str)) = false := by decide)
    (hy : X.N[io]? = some y := by rfl) (hvy : Vis X.env.scope y := by first | exact Or.inl rfl | exact Or.inr (Or.inl rfl) | exact Or.inr (Or.inr rfl)) (hdy : (y == ("__debug__" : Str)) = false := by decide) (hcy : (y == ("__classdict__" : Str)) = false := by decide)
    (hsz : starEach [.Name x px] X.env = [(false, eval (.Name x px) X.env)] := by rfl)
    (hs : ∀ z, foldedSetIterable (.Call (.Name "enumerate" pz) [.Name x px] [] pc) X.env z = pure z := by intro _; rfl)
    (hbase : attributeBase (.Name y py2) "append" X.env (eval (.Name y py2) X.env) = eval (.Name y py2) X.env := by rfl)
    (hfew : ((backTo cpos (starEach (e :: []) X.env)).all (fun x => !x.1) && (backToKw cpos (keywordEach [] X.env)).all (fun x => x.1.isSome)
      && decide ((e :: []).length + ([] : List Keyword).length + (if ([] : List Keyword).isEmpty then 0 else 1) < 30)) = true := by rfl)
    (hline : (apos.endLine == cpos.line) = true := by rfl) (hsa : starEach (e :: []) X.env = (false, eval e X.env) :: starEach [] X.env := by rfl)
    (hsw : swapsWith (.Call (.Attribute (.Name y py2) "append" apos) [e] [] cpos) none epos.line X.env = pure false := by rfl) :
    SV X W (.For (.Tuple [.Name kx pk, .Name y py] k2 p2) (.Call (.Name "enumerate" pz) [.Name x px] [] pc) [.Expr (.Call (.Attribute (.Name y py2) "append" apos) [e] [] cpos) epos] [] pos) (mEnApp i ik io fe) := by
  intro F ρ σ B H N L P
  have pz := pi_enum (X := X) (e := .Name x px) (p := pz) (pos := pc) (tpos := p2) (elts := [.Name kx pk, .Name y py]) (kk := k2) hg hm (pa_cons (pe_var hx hvx hdx hcx) pa_nil hsz) hsz
  have pa := ps_expr (pe_bm (X := X) PySem.F.plainAttrs_list PySem.F.slot_list_append PySem.F.type_list_append mt_append (pe_var hy hvy hdy hcy) (pa_cons pe_we pa_nil hsa) hbase hfew hline hsa rfl) hsw
  refine PS.ws (ps_for hp hc pz pg_wg (pss_cons pa pss_nil) hs) ?_
  have P' : PostS X W F B (mEnApp i ik io fe ρ) N := P
  unfold mEnApp at P'
  split at P'
  case h_2 => exact P'.elim
  rename_i ds e1
  obtain ⟨v0, S, q, ft, gS, noS, L1⟩ := L.take e1 rfl
  obtain ⟨tr, ndS⟩ := ft
  unfold Tr at tr
  obtain ⟨a0, vs, ds', T, ea, eds, hBa, ha, its, rfl⟩ := tr
  subst ea
  injection eds with eds; subst eds
  have lv : vs.length = ds.length := its.len
  let A : Addr → Prop := fun c => OwS X.K B H (ρ.set i .un) σ c ∨ c ∈ a0 :: T
  let G : Fr := ⟨B, H, A, F.P⟩
  have GF : ∀ c, A c → F.A c ∨ F.H0 c = none := fun c h => h.elim (fun z => L1.ofOw z) (fun z => gS c z)
  let OK : M (List D) → Env → Hp → Prop := fun m ρ' B' => match m ρ' with
    | .ok acc ρ1 => PostS X W F B' (.ok .nx (ρ1.set i (.dp (.l (.l .z)) (.lst acc))) : Rs Fl) N
    | _ => False
  have P0 : OK (mEnAppL ik io fe 0 ds []) (ρ.set i .un) B := by
    show (match mEnAppL ik io fe 0 ds [] (ρ.set i .un) with | .ok acc ρ1 => PostS X W F B (.ok .nx (ρ1.set i (.dp (.l (.l .z)) (.lst acc))) : Rs Fl) N | _ => False)
    cases qq : mEnAppL ik io fe 0 ds [] (ρ.set i .un) with
    | ok acc ρ1 => rw [qq] at P'; exact P'
    | rz c ρ1 => rw [qq] at P'; exact P'.elim
    | fail => rw [qq] at P'; exact P'.elim
  clear P P'
  let IN : Nat → St → Hp → Prop := fun kk σ' H' => ∃ ρ' B' T' acc, Lv X.K G ρ' σ' B' H' ∧ H' a0 = some (.lst vs) ∧ B' a0 = none ∧ acc.length = kk ∧ Its (Tr X.K B' H' (.l .z)) vs (acc ++ ds.drop kk) T' ∧ (a0 :: T').Nodup ∧ (∀ c ∈ a0 :: T', (G.A c ∨ G.H0 c = none) ∧ ¬ OwS X.K B' H' ρ' σ' c) ∧ Ex B B' ∧ σ'[i]? = some (some (.ref a0)) ∧ OK (mEnAppL ik io fe kk (ds.drop kk) acc) ρ' B'
  refine ⟨_, q, a0, vs, rfl, .inl (.inl ha), ?_⟩
  refine ⟨fun kk m σ' H' => m = ds.length - kk ∧ kk ≤ ds.length ∧ IN kk σ' H', ⟨ds.length, by simp, Nat.zero_le _, ρ.set i .un, B, T, [], L1.nest.moreA (A := A) fun a h => .inl h, ha, hBa, rfl, its, ndS, fun c hc => ⟨.inl (.inr hc), noS c hc⟩, Ex.refl _, q, P0⟩, ?_⟩
  rintro kk m σ2 H2 ⟨rfl, hk2, ρ2, B2, T2, acc, M2, hl2, hb2, hacc, i2, nd, ga, e2, sg, P2⟩
  by_cases hlt : kk < ds.length
  · have lkv : kk < vs.length := by omega
    refine .inr ⟨⟨vs, _, .inl (.inl hl2), List.getElem?_eq_getElem lkv⟩, IN (kk + 1), fun σ' H' z => ⟨ds.length - (kk + 1), by omega, rfl, hlt, z⟩, fun xv H3 hy => ?_⟩
    obtain ⟨Tq, u, rfl, hT, rfl, hu⟩ := hy
    have hu := hu vs (.inl (.inl hl2))
    rw [List.drop_eq_getElem_cons hlt] at P2 i2
    have gd : (acc ++ ds[kk] :: ds.drop (kk + 1))[kk]? = some ds[kk] := by
      rw [List.getElem?_append_right (by omega), hacc, Nat.sub_self]; rfl
    obtain ⟨u', U, hu', t1, sub⟩ := i2.get gd
    rw [hu] at hu'; injection hu' with hu'; subst hu'
    have t1' := t1
    unfold Tr at t1'
    obtain ⟨b, ys, xs, U0, rfl, hdk, hBb, hHb, itz, rfl⟩ := t1'
    obtain ⟨fys, rfl⟩ := its_z itz
    rw [hdk] at P2 gd i2
    have bT : b ∈ T2 := sub.subset (by simp)
    obtain ⟨na, nT⟩ := List.nodup_cons.mp nd
    have ct : ∀ c ∈ a0 :: T2, B2 c = none ∧ Ct H2 c := fun c hc => by
      rcases List.mem_cons.mp hc with z | z
      · subst z; exact ⟨hb2, .of hl2 fun _ z => nomatch z⟩
      · exact i2.all (fun v d T r => Tr.hid r) c z
    generalize hB3 : upd B2 Tq (.tup [.int ((kk : Nat) : Int), .ref b]) = B3
    generalize hH3 : upd H2 Tq (.tup [.int ((kk : Nat) : Int), .ref b]) = H3
    have M3 : Lv X.K G ρ2 σ2 B3 H3 := by rw [← hB3, ← hH3]; exact M2.alloc hT
    have e23 : Ex B2 B3 := by rw [← hB3]; exact Ex.new (M2.ex.nn hT)
    have neq : ∀ {c}, Ct H2 c → c ≠ Tq := fun h z => h.ne (z ▸ hT)
    have k3 : ∀ c, Ct H2 c → B2 c = none → B3 c = none ∧ ∀ o, H2 c = some o → H3 c = some o := fun c h hb => ⟨by rw [← hB3, upd_ne (neq h)]; exact hb, fun o z => by rw [← hH3, upd_ne (neq h)]; exact z⟩
    have no3 : ∀ c ∈ a0 :: T2, ¬ OwS X.K B3 H3 ρ2 σ2 c := fun c hc z => (ga c hc).2 (OwS.back M2 e23 (fun b w => k3 b (M2.hidOw w).2 (M2.hidOw w).1) z)
    have L3 := M3.nest
    have N2G : ∀ c, OwS X.K B3 H3 ρ2 σ2 c → G.A c ∨ G.H0 c = none := fun c h => M3.ofOw h
    refine h2 _ ρ2 σ2 B3 H3 (.ref Tq) (.tup [.int ((kk : Nat) : Int), .obj b]) _ L3 (.tup (.inl (.inl (by rw [← hB3]; exact upd_same))) (.cons (.int _) (.cons (.obj b) .nil))) ?_
    intro σ4 B4 H4 on4 e4 L4
    have st : ∃ p ρ5, fe ((ρ2.set ik (.fz (.int ((kk : Nat) : Int)))).set io .un) = .ok p ρ5 ∧ (xs.length < 10000 ∧ io < ρ2.length) ∧ OK (mEnAppL ik io fe (kk + 1) (ds.drop (kk + 1)) (acc ++ [.lst (xs ++ [p])])) ρ5 B2 := by
      have P3 : (match mEnAppL ik io fe kk (.lst xs :: ds.drop (kk + 1)) acc ρ2 with | .ok acc ρ1 => PostS X W F B2 (.ok .nx (ρ1.set i (.dp (.l (.l .z)) (.lst acc))) : Rs Fl) N | _ => False) := P2
      unfold mEnAppL at P3
      cases qf : fe ((ρ2.set ik (.fz (.int ((kk : Nat) : Int)))).set io .un) with
      | rz c ρ5 => simp only [qf] at P3
      | fail => simp only [qf] at P3
      | ok p ρ5 =>
        simp only [qf] at P3
        by_cases hz : xs.length < 10000 ∧ io < ρ2.length
        · rw [if_pos hz] at P3
          exact ⟨p, ρ5, rfl, hz, P3⟩
        · rw [if_neg hz] at P3
          exact P3.elim
    obtain ⟨p, ρ5, hfe, ⟨hxl, hio⟩, P3⟩ := st
    have lio : io < (ρ2.set ik (.fz (.int ((kk : Nat) : Int)))).length := by rw [List.length_set]; exact hio
    obtain ⟨vo, sio, fvo⟩ := L4.fz io (.obj b) (List.getElem?_set_self lio)
    cases fvo
    have L4u := L4.slot (i := io) (t := .un) rfl (fun d z => nomatch z)
    rw [List.set_set] at L4u
    have k4 : ∀ c ∈ a0 :: T2, B4 c = none ∧ ∀ o, H2 c = some o → H4 c = some o := fun c hc => by
      have h3 := k3 c (ct c hc).2 (ct c hc).1
      exact ⟨L4.hid c h3.1 ((ct c hc).2.to h3.2) (no3 c hc), fun o z => L4.kept c o (h3.2 o z) (no3 c hc)⟩
    have hb4 := (k4 b (by simp [bT])).2 _ hHb
    refine ⟨_, sio, .inl ⟨rfl, ys, .inl (.inl hb4)⟩, ?_⟩
    refine he _ _ σ4 B4 H4 _ L4u ?_
    rw [hfe]
    intro B5 H5 e5 L5 u fu
    have k5 : ∀ c ∈ a0 :: T2, B5 c = none ∧ ∀ o, H2 c = some o → H5 c = some o := fun c hc => by
      have h3 := k3 c (ct c hc).2 (ct c hc).1
      exact ⟨L5.hid c h3.1 ((ct c hc).2.to h3.2) (no3 c hc), fun o z => L5.kept c o (h3.2 o z) (no3 c hc)⟩
    have no5 : ∀ c ∈ a0 :: T2, ¬ OwS X.K B5 H5 ρ5 σ4 c := fun c hc z => by
      rcases L5.ofOw z with z | z
      · exact no3 c hc z
      · exact ((ct c hc).2.to (k3 c (ct c hc).2 (ct c hc).1).2).ne z
    have LG : Lv X.K G ρ5 σ4 B5 H5 := M3.backX L5 N2G
    have e25 : Ex B2 B5 := e23.trans (e4.trans e5)
    have hb5 := (k5 b (by simp [bT])).2 _ hHb
    have L6 := LG.hidW0 (o := .lst (ys ++ [u])) (k5 b (by simp [bT])).1 (ga b (by simp [bT])).1 (no5 b (by simp [bT]))
    refine ⟨b, ys, u, rfl, rfl, hb5, lt_line (by rw [fys.len]; exact hxl), ?_⟩
    have nab : a0 ≠ b := fun z => na (by rw [z]; exact bT)
    have hvk : vs[kk]? = some (.ref b) := hu
    have i5 : Its (Tr X.K B5 H5 (.l .z)) vs (acc ++ .lst xs :: ds.drop (kk + 1)) T2 := i2.imp fun v d U r s => r.keep e25 (fun c hc => (k5 c (by simp [s c hc])).1) (fun c hc => (k5 c (by simp [s c hc])).2)
    obtain ⟨bS, S', iS, nS, sS⟩ := Its.upd (N := fun _ => False) (a' := b) (R' := Tr X.K B5 (upd H5 b (.lst (ys ++ [u]))) (.l .z)) (d2 := .lst (xs ++ [p])) i5 nT (fun a _ z => z) gd hvk (fun v d U r nb =>
        r.keep (Ex.refl _) (fun c hc => (r.hid c hc).1) (fun c hc o z => by rw [upd_ne (fun (w : c = b) => nb (by rw [← w]; exact hc))]; exact z)) (fun U r nU sU => by
        unfold Tr at r
        obtain ⟨b', ys', xs', U', eb, ex, h1, h2, itz, rfl⟩ := r
        injection eb with eb; subst eb
        injection ex with ex; subst ex
        obtain ⟨fz', rfl⟩ := its_z itz
        rw [hb5] at h2; injection h2 with h2; injection h2 with h2; subst h2
        refine ⟨by simp, [b], ?_, by simp, fun c hc => .inl hc⟩
        unfold Tr
        exact ⟨b, ys ++ [u], xs ++ [p], [], rfl, rfl, h1, upd_same, z_its (fz'.append (.cons fu .nil)), rfl⟩)
    have sub' : ∀ c ∈ S', c ∈ T2 := fun c hc => (sS c hc).elim id fun z => z.elim
    have hset : (acc ++ .lst xs :: ds.drop (kk + 1)).set kk (.lst (xs ++ [p])) = (acc ++ [.lst (xs ++ [p])]) ++ ds.drop (kk + 1) := by
      rw [List.set_append_right _ _ (by omega), hacc, Nat.sub_self]; simp
    rw [hset] at iS
    have sg4 : σ4[i]? = some (some (.ref a0)) := by rw [on4.2 i (by simp [hn1, hn2])]; exact sg
    refine ⟨ρ5, B5, S', acc ++ [.lst (xs ++ [p])], L6, by rw [upd_ne nab]; exact (k5 a0 (by simp)).2 _ hl2, (k5 a0 (by simp)).1, by rw [List.length_append, hacc]; rfl, iS, List.nodup_cons.mpr ⟨fun z => na (sub' _ z), nS⟩, fun c hc => ?_, e2.trans e25, sg4, ?_⟩
    · have hc' : c ∈ a0 :: T2 := by
        rcases List.mem_cons.mp hc with z | z
        · simp [z]
        · simp [sub' c z]
      refine ⟨(ga c hc').1, fun z => no5 c hc' (z.chg LG (no5 b (by simp [bT])))⟩
    · have P4 : (match mEnAppL ik io fe (kk + 1) (ds.drop (kk + 1)) (acc ++ [.lst (xs ++ [p])]) ρ5 with | .ok acc ρ1 => PostS X W F B2 (.ok .nx (ρ1.set i (.dp (.l (.l .z)) (.lst acc))) : Rs Fl) N | _ => False) := P3
      show (match mEnAppL ik io fe (kk + 1) (ds.drop (kk + 1)) (acc ++ [.lst (xs ++ [p])]) ρ5 with | .ok acc ρ1 => PostS X W F B5 (.ok .nx (ρ1.set i (.dp (.l (.l .z)) (.lst acc))) : Rs Fl) N | _ => False)
      cases qq : mEnAppL ik io fe (kk + 1) (ds.drop (kk + 1)) (acc ++ [.lst (xs ++ [p])]) ρ5 with
      | ok acc2 ρ6 => rw [qq] at P4; exact PostS.weak P4 e25
      | rz c ρ6 => rw [qq] at P4; exact P4.elim
      | fail => rw [qq] at P4; exact P4.elim
  · have e : kk = ds.length := by omega
    subst e
    rw [List.drop_length] at P2 i2
    rw [List.append_nil] at i2
    have P3 : PostS X W F B2 (.ok .nx (ρ2.set i (.dp (.l (.l .z)) (.lst acc))) : Rs Fl) N := P2
    have LF : Lv X.K F ρ2 σ2 B2 H2 := L1.backX M2 GF
    refine .inl ⟨⟨vs, .inl (.inl hl2), by omega⟩, P3 σ2 B2 H2 (Ex.refl _) ?_⟩
    refine LF.own (i := i) (t := .dp (.l (.l .z)) (.lst acc)) sg (S := a0 :: T2) ⟨by unfold Tr; exact ⟨a0, vs, acc, T2, rfl, rfl, hb2, hl2, i2, rfl⟩, nd⟩ (fun c hc => ?_) (fun c hc z => ?_) (fun d z => nomatch z)
    · rcases (ga c hc).1 with z | z
      · exact GF c z
      · exact .inr (L1.free z)
    · exact (ga c hc).2 (by obtain ⟨jj, s, v, U, ne, e1, q1, f1, m1⟩ := z.un; exact ⟨jj, s, v, U, e1, q1, f1, m1⟩)
end
end Dt
namespace Dt
open PySem PySem.Spec PyProof.Rows L2
inductive AtS (K : PySem.W.Frag) (H : Hp) : V → List Nat → V → Prop
  | nil {v : V} : AtS K H v [] v
  | lst {a : Addr} {vs : List V} {k : Nat} {w u : V} {p : List Nat} : H a = some (.lst vs) → vs[k]? = some w → AtS K H w p u → AtS K H (.ref a) (k :: p) u
  | tup {a : Addr} {vs : List V} {k : Nat} {w u : V} {p : List Nat} : SqT K H a vs → vs[k]? = some w → AtS K H w p u → AtS K H (.ref a) (k :: p) u
section
variable {K : PySem.W.Frag} {H H' : Hp}
theorem AtS.up {v w : V} {p : List Nat} (h : AtS K H v p w) (k : Ex H H') : AtS K H' v p w := by
  induction h with
  | nil => exact .nil
  | lst q g t ih => exact .lst (k _ _ q) g ih
  | tup q g t ih => exact .tup (k.st q) g ih
theorem st_grow {a b : Addr} {vs ws xs : List V} (ha : H a = some (.lst vs)) (h : SqT K H b xs) : SqT K (upd H a (.lst ws)) b xs := by
  rcases h with (h | ⟨u, h⟩) | h
  · exact .inl (.inl (by rw [upd_ne (fun z => by rw [z, ha] at h; cases h)]; exact h))
  · exact .inl (.inr ⟨u, by rw [upd_ne (fun z => by rw [z, ha] at h; cases h)]; exact h⟩)
  · exact .inr h
theorem AtS.grow {v w : V} {p : List Nat} (h : AtS K H v p w) {a : Addr} {vs : List V} {u : V} (ha : H a = some (.lst vs)) : AtS K (upd H a (.lst (vs ++ [u]))) v p w := by
  induction h with
  | nil => exact .nil
  | @lst b xs k w1 u1 p q g t ih =>
    by_cases z : b = a
    · subst z
      rw [ha] at q; injection q with q; injection q with q; subst q
      exact .lst upd_same (by rw [List.getElem?_append_left (List.getElem?_eq_some_iff.mp g).1]; exact g) ih
    · exact .lst (by rw [upd_ne z]; exact q) g ih
  | @tup b xs k w1 u1 p q g t ih => exact .tup (st_grow ha q) g ih
end
def bare : Env → Prop := fun ρ => ∀ (i : Nat) (s : Slot), ρ[i]? = some s → owned s = false
theorem bare.no {K : PySem.W.Frag} {B H : Hp} {ρ : Env} {σ : St} (h : bare ρ) (a : Addr) : ¬ OwS K B H ρ σ a := fun ⟨i, s, v, S, e, _, f, _⟩ => by
  have := h i s e
  rw [f.owned] at this; cases this
section
variable {X : Cx} {W : WX} {o e : Expr} {pos : Pos}
def RP (X : Cx) (o : Expr) (σ : St) (H : Hp) (w : V) : Prop := ∀ Q : VK, Q w H → we X o σ H Q
theorem rp_var {i : Nat} {x : Str} {σ : St} {H : Hp} {v : V} (h : σ[i]? = some (some v)) (hN : X.N[i]? = some x := by rfl) (hv : Vis X.env.scope x := by first | exact Or.inl rfl | exact Or.inr (Or.inl rfl) | exact Or.inr (Or.inr rfl)) (hd : (x == ("__debug__" : Str)) = false := by decide)
    (hcd : (x == ("__classdict__" : Str)) = false := by decide) : RP X (.Name x pos) σ H v := fun Q q => PE.we (pe_var hN hv hd hcd) ⟨v, h, q⟩
theorem rp_ix {σ : St} {H : Hp} {v w : V} {k : Nat} {cp : Nat} {p1 : Pos} (ho : RP X o σ H v) (h : AtS X.K H v [k] w) (hs : PlainIx (.Constant (.int (k : Int)) cp p1) := by exact fun _ _ => rfl) : RP X (.Subscript o (.Constant (.int (k : Int)) cp p1) pos) σ H w := fun Q hq => by
  refine PE.we (pe_ix ix_seq pe_we (pe_int (X := X) (i := (k : Int)) (j := cp) (pos := p1)) hs) ?_
  refine ho _ ?_
  cases h with
  | lst q g t =>
    cases t
    exact .inl ⟨_, _, (k : Int), _, rfl, rfl, .inl (.inl q), L2.atI_nat g, hq⟩
  | tup q g t =>
    cases t
    exact .inr (.inl ⟨_, _, (k : Int), _, rfl, rfl, q, L2.atI_nat g, hq⟩)
theorem ws_app {F : Fr} {ρ : Env} {σ : St} {B H : Hp} {N : Ends} {W : WX} {a : Addr} {vs : List V} {fe : M D} {d : D} {apos cpos : Pos} (ho : RP X o σ H (.ref a)) (he : EV X W e fe) (L : Lv X.K F ρ σ B H) (hb : bare ρ) (hfe : fe ρ = .ok d ρ) (ha : H a = some (.lst vs)) (hl : vs.length < 100000) (hB : B a = none) (hA : F.A a ∨ F.H0 a = none)
    (k : ∀ B' H' u, Ex B B' → (∀ b o, H b = some o → H' b = some o) → (∀ b, B b = none → Ct H b → B' b = none) → Lv X.K F ρ σ B' (upd H' a (.lst (vs ++ [u]))) → H' a = some (.lst vs) → N.nx σ (upd H' a (.lst (vs ++ [u]))))
    (hbase : attributeBase o "append" X.env (eval o X.env) = eval o X.env := by rfl)
    (hfew : ((backTo cpos (starEach (e :: []) X.env)).all (fun x => !x.1) && (backToKw cpos (keywordEach [] X.env)).all (fun x => x.1.isSome)
      && decide ((e :: []).length + ([] : List Keyword).length + (if ([] : List Keyword).isEmpty then 0 else 1) < 30)) = true := by rfl)
    (hline : (apos.endLine == cpos.line) = true := by rfl) (hs : starEach (e :: []) X.env = (false, eval e X.env) :: starEach [] X.env := by rfl)
    (hsw : swapsWith (.Call (.Attribute o "append" apos) [e] [] cpos) none pos.line X.env = pure false := by rfl) : ws X (.Expr (.Call (.Attribute o "append" apos) [e] [] cpos) pos) N σ H := by
  refine PS.ws (ps_expr (pe_bm PySem.F.plainAttrs_list PySem.F.slot_list_append PySem.F.type_list_append mt_append pe_we (pa_cons pe_we pa_nil hs) hbase hfew hline hs rfl) hsw) ?_
  refine ho _ ⟨.inl ⟨rfl, vs, .inl (.inl ha)⟩, ?_⟩
  refine he _ ρ σ B H _ L.nest ?_
  rw [hfe]
  intro B' H' e' M u fu
  have hk : ∀ b o, H b = some o → H' b = some o := fun b o q => M.kept b o q (hb.no b)
  have hn : ∀ b, B b = none → Ct H b → B' b = none := fun b q c => M.hid b q c (hb.no b)
  have Lb := L.back M
  have ca : Ct H a := .of ha fun _ z => nomatch z
  exact ⟨a, vs, u, rfl, rfl, hk a _ ha, Nat.lt_of_lt_of_le hl (by decide), k B' H' u e' hk hn (Lb.hidW0 (hn a hB ca) hA (hb.no a)) (hk a _ ha)⟩
theorem ws_pop {F : Fr} {ρ : Env} {σ : St} {B H : Hp} {N : Ends} {a : Addr} {vs : List V} {apos cpos : Pos} (ho : RP X o σ H (.ref a)) (L : Lv X.K F ρ σ B H) (hb : bare ρ) (ha : H a = some (.lst vs)) (hl : 0 < vs.length) (hB : B a = none) (hA : F.A a ∨ F.H0 a = none)
    (k : Lv X.K F ρ σ B (upd H a (.lst vs.dropLast)) → N.nx σ (upd H a (.lst vs.dropLast)))
    (hbase : attributeBase o "pop" X.env (eval o X.env) = eval o X.env := by rfl) (hline : (apos.endLine == cpos.line) = true := by rfl)
    (hsw : swapsWith (.Call (.Attribute o "pop" apos) [] [] cpos) none pos.line X.env = pure false := by rfl) : ws X (.Expr (.Call (.Attribute o "pop" apos) [] [] cpos) pos) N σ H := by
  refine PS.ws (ps_expr (pe_bm0 PySem.F.plainAttrs_list PySem.F.slot_list_pop PySem.F.type_list_pop mt_pop pe_we hbase hline) hsw) ?_
  refine ho _ ⟨.inl ⟨rfl, vs, .inl (.inl ha)⟩, ?_⟩
  exact ⟨a, vs, vs[vs.length - 1], rfl, rfl, ha, List.getElem?_eq_getElem (by omega), k (L.hidW0 hB hA (hb.no a))⟩
end
abbrev mkL : Mk := .t (.cons (.l .z) (.cons .z (.cons .z (.cons .z .nil))))
abbrev mkS : Mk := .t (.cons .z (.cons .z (.cons (.l .z) .nil)))
abbrev mkN : Mk := .t (.cons (.l mkL) (.cons (.l mkS) (.cons (.t (.cons .z (.cons (.l .z) .nil))) .nil)))
def chOk : D → Bool
  | .tup [.lst (.tup [.lst sp, _, _, _] :: ls), .lst (.tup [_, _, .lst wy] :: ss), .tup [_, .lst cn]] => decide (sp.length < 10000) && decide (ls.length < 10000) && decide (wy.length < 10000) && decide (ss.length < 10000) && decide (cn.length < 10000)
  | _ => false
theorem AtS.inv {K : PySem.W.Frag} {H : Hp} {v w : V} {k : Nat} {p : List Nat} (h : AtS K H v (k :: p) w) : ∃ u, AtS K H v [k] u ∧ AtS K H u p w := by
  cases h with
  | lst q g t => exact ⟨_, .lst q g .nil, t⟩
  | tup q g t => exact ⟨_, .tup q g .nil, t⟩
def LJ (H : Hp) (a : Addr) (lo hi : Nat) : Prop := ∃ vs, H a = some (.lst vs) ∧ lo ≤ vs.length ∧ vs.length ≤ hi
theorem LJ.up {H H' : Hp} {a : Addr} {lo hi : Nat} (h : LJ H a lo hi) (k : ∀ b o, H b = some o → H' b = some o) : LJ H' a lo hi := by
  obtain ⟨vs, q, l⟩ := h
  exact ⟨vs, k _ _ q, l⟩
theorem LJ.grow {H : Hp} {a b : Addr} {lo hi : Nat} {vs : List V} {u : V} (h : LJ H b lo hi) (ha : H a = some (.lst vs)) : LJ (upd H a (.lst (vs ++ [u]))) b lo (hi + 1) := by
  obtain ⟨ws, q, l1, l2⟩ := h
  by_cases z : b = a
  · subst z
    rw [ha] at q; injection q with q; injection q with q; subst q
    exact ⟨_, upd_same, by rw [List.length_append]; omega, by rw [List.length_append, List.length_singleton]; omega⟩
  · exact ⟨ws, by rw [upd_ne z]; exact q, l1, by omega⟩
def chP (K : PySem.W.Frag) (v : V) (al as_ sp wy cn : Addr) (n : Nat) (H : Hp) : Prop := AtS K H v [0, 0, 0] (.ref sp) ∧ AtS K H v [1, 0, 2] (.ref wy) ∧ AtS K H v [2, 1] (.ref cn) ∧ AtS K H v [0] (.ref al) ∧ AtS K H v [1] (.ref as_) ∧ LJ H sp 0 n ∧ LJ H wy 0 n ∧ LJ H cn 0 n ∧ LJ H al 0 n ∧ LJ H as_ 1 n
theorem chP.up {K : PySem.W.Frag} {v : V} {al as_ sp wy cn : Addr} {n : Nat} {H H' : Hp} (h : chP K v al as_ sp wy cn n H) (k : ∀ b o, H b = some o → H' b = some o) : chP K v al as_ sp wy cn n H' := by
  obtain ⟨a1, a2, a3, a4, a5, l1, l2, l3, l4, l5⟩ := h
  exact ⟨a1.up k, a2.up k, a3.up k, a4.up k, a5.up k, l1.up k, l2.up k, l3.up k, l4.up k, l5.up k⟩
theorem chP.grow {K : PySem.W.Frag} {v : V} {al as_ sp wy cn a : Addr} {n : Nat} {H : Hp} {vs : List V} {u : V} (h : chP K v al as_ sp wy cn n H) (ha : H a = some (.lst vs)) : chP K v al as_ sp wy cn (n + 1) (upd H a (.lst (vs ++ [u]))) := by
  obtain ⟨a1, a2, a3, a4, a5, l1, l2, l3, l4, l5⟩ := h
  exact ⟨a1.grow ha, a2.grow ha, a3.grow ha, a4.grow ha, a5.grow ha, l1.grow ha, l2.grow ha, l3.grow ha, l4.grow ha, l5.grow ha⟩
section
variable {X : Cx} {W : WX}
theorem wss_chg {F : Fr} {ρ : Env} {σ : St} {B H : Hp} {N : Ends} {v : V} {al as_ sp wy cn : Addr} {o1 o2 o3 o4 o5 e1 e2 e3 e4 : Expr} {f1 f2 f3 f4 : M D} {d1 d2 d3 d4 : D} {q1 q2 q3 q4 q5 c1 c2 c3 c4 c5 a1 a2 a3 a4 a5 : Pos}
    (L : Lv X.K F ρ σ B H) (hb : bare ρ) (P : chP X.K v al as_ sp wy cn 10000 H) (hB : ∀ a ∈ [al, as_, sp, wy, cn], B a = none ∧ (F.A a ∨ F.H0 a = none))
    (h1 : ∀ H, AtS X.K H v [0, 0, 0] (.ref sp) → RP X o1 σ H (.ref sp)) (h2 : ∀ H, AtS X.K H v [1, 0, 2] (.ref wy) → RP X o2 σ H (.ref wy)) (h3 : ∀ H, AtS X.K H v [2, 1] (.ref cn) → RP X o3 σ H (.ref cn)) (h4 : ∀ H, AtS X.K H v [0] (.ref al) → RP X o4 σ H (.ref al)) (h5 : ∀ H, AtS X.K H v [1] (.ref as_) → RP X o5 σ H (.ref as_))
    (g1 : EV X W e1 f1) (g2 : EV X W e2 f2) (g3 : EV X W e3 f3) (g4 : EV X W e4 f4) (k1 : f1 ρ = .ok d1 ρ) (k2 : f2 ρ = .ok d2 ρ) (k3 : f3 ρ = .ok d3 ρ) (k4 : f4 ρ = .ok d4 ρ)
    (k : ∀ B' H', Ex B B' → Lv X.K F ρ σ B' H' → N.nx σ H')
    (b1 : attributeBase o1 "append" X.env (eval o1 X.env) = eval o1 X.env := by rfl) (b2 : attributeBase o2 "append" X.env (eval o2 X.env) = eval o2 X.env := by rfl) (b3 : attributeBase o3 "append" X.env (eval o3 X.env) = eval o3 X.env := by rfl) (b4 : attributeBase o4 "append" X.env (eval o4 X.env) = eval o4 X.env := by rfl) (b5 : attributeBase o5 "pop" X.env (eval o5 X.env) = eval o5 X.env := by rfl)
    (m1 : ((backTo c1 (starEach (e1 :: []) X.env)).all (fun x => !x.1) && (backToKw c1 (keywordEach [] X.env)).all (fun x => x.1.isSome) && decide ((e1 :: []).length + ([] : List Keyword).length + (if ([] : List Keyword).isEmpty then 0 else 1) < 30)) = true := by rfl)
    (m2 : ((backTo c2 (starEach (e2 :: []) X.env)).all (fun x => !x.1) && (backToKw c2 (keywordEach [] X.env)).all (fun x => x.1.isSome) && decide ((e2 :: []).length + ([] : List Keyword).length + (if ([] : List Keyword).isEmpty then 0 else 1) < 30)) = true := by rfl)
    (m3 : ((backTo c3 (starEach (e3 :: []) X.env)).all (fun x => !x.1) && (backToKw c3 (keywordEach [] X.env)).all (fun x => x.1.isSome) && decide ((e3 :: []).length + ([] : List Keyword).length + (if ([] : List Keyword).isEmpty then 0 else 1) < 30)) = true := by rfl)
    (m4 : ((backTo c4 (starEach (e4 :: []) X.env)).all (fun x => !x.1) && (backToKw c4 (keywordEach [] X.env)).all (fun x => x.1.isSome) && decide ((e4 :: []).length + ([] : List Keyword).length + (if ([] : List Keyword).isEmpty then 0 else 1) < 30)) = true := by rfl)
    (l1 : (a1.endLine == c1.line) = true := by rfl) (l2 : (a2.endLine == c2.line) = true := by rfl) (l3 : (a3.endLine == c3.line) = true := by rfl) (l4 : (a4.endLine == c4.line) = true := by rfl) (l5 : (a5.endLine == c5.line) = true := by rfl)
    (s1 : starEach (e1 :: []) X.env = (false, eval e1 X.env) :: starEach [] X.env := by rfl) (s2 : starEach (e2 :: []) X.env = (false, eval e2 X.env) :: starEach [] X.env := by rfl) (s3 : starEach (e3 :: []) X.env = (false, eval e3 X.env) :: starEach [] X.env := by rfl) (s4 : starEach (e4 :: []) X.env = (false, eval e4 X.env) :: starEach [] X.env := by rfl)
    (w1 : swapsWith (.Call (.Attribute o1 "append" a1) [e1] [] c1) none q1.line X.env = pure false := by rfl) (w2 : swapsWith (.Call (.Attribute o2 "append" a2) [e2] [] c2) none q2.line X.env = pure false := by rfl) (w3 : swapsWith (.Call (.Attribute o3 "append" a3) [e3] [] c3) none q3.line X.env = pure false := by rfl) (w4 : swapsWith (.Call (.Attribute o4 "append" a4) [e4] [] c4) none q4.line X.env = pure false := by rfl)
    (w5 : swapsWith (.Call (.Attribute o5 "pop" a5) [] [] c5) none q5.line X.env = pure false := by rfl) :
    wss X [.Expr (.Call (.Attribute o1 "append" a1) [e1] [] c1) q1, .Expr (.Call (.Attribute o2 "append" a2) [e2] [] c2) q2, .Expr (.Call (.Attribute o3 "append" a3) [e3] [] c3) q3, .Expr (.Call (.Attribute o4 "append" a4) [e4] [] c4) q4, .Expr (.Call (.Attribute o5 "pop" a5) [] [] c5) q5] N σ H := by
  have ct : ∀ {H : Hp} {a : Addr} {lo hi : Nat}, LJ H a lo hi → Ct H a := fun h => by obtain ⟨vs, q, _⟩ := h; exact .of q fun _ z => nomatch z
  refine PSs.wss (pss_cons ps_ws (pss_cons ps_ws (pss_cons ps_ws (pss_cons ps_ws (pss_cons ps_ws pss_nil))))) ?_
  have go : ∀ {B1 H1 B2 : Hp}, (∀ a ∈ [al, as_, sp, wy, cn], B1 a = none ∧ (F.A a ∨ F.H0 a = none)) → (∀ a ∈ [al, as_, sp, wy, cn], Ct H1 a) → (∀ b, B1 b = none → Ct H1 b → B2 b = none) → ∀ a ∈ [al, as_, sp, wy, cn], B2 a = none ∧ (F.A a ∨ F.H0 a = none) := fun h c hn a ha => ⟨hn a (h a ha).1 (c a ha), (h a ha).2⟩
  have cts : ∀ (H1 : Hp) (n : Nat), chP X.K v al as_ sp wy cn n H1 → ∀ a ∈ [al, as_, sp, wy, cn], Ct H1 a := fun H1 n p a ha => by
    obtain ⟨_, _, _, _, _, j1, j2, j3, j4, j5⟩ := p
    simp only [List.mem_cons, List.not_mem_nil, or_false] at ha
    rcases ha with z | z | z | z | z
    · rw [z]; exact ct j4
    · rw [z]; exact ct j5
    · rw [z]; exact ct j1
    · rw [z]; exact ct j2
    · rw [z]; exact ct j3
  obtain ⟨vs1, y1, _, z1⟩ := P.2.2.2.2.2.1
  refine ws_app (h1 H P.1) g1 L hb k1 y1 (by omega) (hB sp (by simp)).1 (hB sp (by simp)).2 (fun B1 H1 u1 x1 u0 n1 L1 y1' => ?_) b1 m1 l1 s1 w1
  have P1 := (P.up u0).grow (u := u1) y1'
  have hB1 := go hB (cts H _ P) n1
  generalize upd H1 sp (.lst (vs1 ++ [u1])) = H1' at L1 P1 ⊢
  obtain ⟨vs2, y2, _, z2⟩ := P1.2.2.2.2.2.2.1
  refine ws_app (h2 _ P1.2.1) g2 L1 hb k2 y2 (by omega) (hB1 wy (by simp)).1 (hB1 wy (by simp)).2 (fun B2 H2 u2 x2 u0 n2 L2 y2' => ?_) b2 m2 l2 s2 w2
  have P2 := (P1.up u0).grow (u := u2) y2'
  have hB2 := go hB1 (cts _ _ P1) n2
  generalize upd H2 wy (.lst (vs2 ++ [u2])) = H2' at L2 P2 ⊢
  obtain ⟨vs3, y3, _, z3⟩ := P2.2.2.2.2.2.2.2.1
  refine ws_app (h3 _ P2.2.2.1) g3 L2 hb k3 y3 (by omega) (hB2 cn (by simp)).1 (hB2 cn (by simp)).2 (fun B3 H3 u3 x3 u0 n3 L3 y3' => ?_) b3 m3 l3 s3 w3
  have P3 := (P2.up u0).grow (u := u3) y3'
  have hB3 := go hB2 (cts _ _ P2) n3
  generalize upd H3 cn (.lst (vs3 ++ [u3])) = H3' at L3 P3 ⊢
  obtain ⟨vs4, y4, _, z4⟩ := P3.2.2.2.2.2.2.2.2.1
  refine ws_app (h4 _ P3.2.2.2.1) g4 L3 hb k4 y4 (by omega) (hB3 al (by simp)).1 (hB3 al (by simp)).2 (fun B4 H4 u4 x4 u0 n4 L4 y4' => ?_) b4 m4 l4 s4 w4
  have P4 := (P3.up u0).grow (u := u4) y4'
  have hB4 := go hB3 (cts _ _ P3) n4
  generalize upd H4 al (.lst (vs4 ++ [u4])) = H4' at L4 P4 ⊢
  obtain ⟨vs5, y5, z5, _⟩ := P4.2.2.2.2.2.2.2.2.2
  exact ws_pop (h5 _ P4.2.2.2.2.1) L4 hb y5 (by omega) (hB4 as_ (by simp)).1 (hB4 as_ (by simp)).2 (fun L5 => k B4 _ (x1.trans (x2.trans (x3.trans x4))) L5) b5 l5 w5
end
end Dt
namespace Dt
open PySem PySem.Spec PyProof.Rows L2
theorem scK {N P : List Str} {sc : Scope} (a : sc.kind = .function := by rfl) (b : sc.isCoroutine = false := by rfl) (c : sc.isGenerator = false := by rfl) (d : N.Nodup := by decide +kernel) (e : N.take P.length = P := by rfl) (f : ∀ x ∈ P, sc.names.lookup x = some .local ∨ sc.names.lookup x = some .cell := by decide +kernel) (g : ∀ y ∈ sc.names, y.2 ≠ .free := by decide +kernel) : FnScope N P sc := ⟨a, b, c, d, e, f, g⟩
theorem bO {P : Program} {w : World} {K : PySem.W.Frag} {mg : Str → Option Value} {base : Heap} {N : List Str} {fn : Str} {st : Stmt} {f : Addr} {cdv : Value} {A : Around} {outer : List PySem.Env} {s : Shared} {H : Hp} {E : XK} {scope : Scope} {own : List (Str × Nat)} (h : blkC N (defScope st) scope own = true := by decide +kernel) : BlkOk (cxOf (L2.CX P w) P w K mg base N fn (defScope st) f cdv A outer s H E).N (cxOf (L2.CX P w) P w K mg base N fn (defScope st) f cdv A outer s H E).env.scope scope own := blkOk_by h
section
variable {P : Program} {w : World} {K : PySem.W.Frag} {mg : Str → Option Value} {base : Heap} {x y : Str} {st : Stmt} {N ps : List Str} {k : Nat} {m : Option Nat} {fb : M Fl}
abbrev BodyOk (P : Program) (w : World) (K : PySem.W.Frag) (mg : Str → Option Value) (base : Heap) (x : Str) (st : Stmt) (N : List Str) (k : Nat) (fb : M Fl) : Prop := ∀ (f : Addr) (cdv : Value) (A : Around) (outer : List PySem.Env) (s : Shared) (H : Hp) (E : XK), Quiet P base (A.deeper (envOfC x (defScope st) s.heap.objs.size f cdv)) → Room k (A.deeper (envOfC x (defScope st) s.heap.objs.size f cdv)) →
      Takes (cxOf (L2.CX P w) P w K mg base N x (defScope st) f cdv A outer s H E) (fun cls d _ H => E cls d H) →
      PassesOwn (model P w) (A.deeper (envOfC x (defScope st) s.heap.objs.size f cdv)) (envOfC x (defScope st) s.heap.objs.size f cdv) (cxOf (L2.CX P w) P w K mg base N x (defScope st) f cdv A outer s H E).xe →
      SVs (cxOf (L2.CX P w) P w K mg base N x (defScope st) f cdv A outer s H E) (fun cls d _ H => E cls d H) (defBody st) fb
abbrev BindOk (x : Str) (st : Stmt) (ps : List Str) : Prop := ∀ (kV doc pm : Value) (an : Option Addr) (cdv ct : Value) (us : List Value), us.length = ps.length → bindArgs (PySem.W.fnOf x x (defArgs st) (defBody st) (defScope st) .none kV doc pm an cdv ct) ⟨us, []⟩ = pure (ps.zip us)
theorem okm (T : FnIn K mg x st) (S : FnScope N ps (defScope st)) (hb : BodyOk P w K mg base x st N k fb) (hps : ps.length ≤ N.length := by decide)
    (B : BindOk x st ps := by first | (exact fun _ _ _ _ _ _ us hl => match us, hl with | [_], _ => rfl) | (exact fun _ _ _ _ _ _ us hl => match us, hl with | [_, _], _ => rfl) | (exact fun _ _ _ _ _ _ us hl => match us, hl with | [_, _, _], _ => rfl) | (exact fun _ _ _ _ _ _ us hl => match us, hl with | [_, _, _, _], _ => rfl) | (exact fun _ _ _ _ _ _ us hl => match us, hl with | [_, _, _, _, _], _ => rfl) | (exact fun _ _ _ _ _ _ us hl => match us, hl with | [_, _, _, _, _, _], _ => rfl) | (exact fun _ _ _ _ _ _ us hl => match us, hl with | [], _ => rfl)) : Ok P w K mg base x (k + 1) ps.length m (runF m N.length fb) := ok_mk T S hps B hb
end
end Dt
namespace Dt
open PySem PySem.Spec PyProof.Rows L2
def OkS (P : Program) (w : World) (K : PySem.W.Frag) (mg : Str → Option Value) (base : Heap) (x : Str) (k : Nat) (sp : Sp) : Prop :=
  ∃ f fd ps, mg x = some (.ref f) ∧ PySem.W.keepIn K (.ref f) = true ∧ Binds K fd ps [] ∧ FnG P w K mg base k f fd ps sp
theorem okS_mk {P : Program} {w : World} {K : PySem.W.Frag} {mg : Str → Option Value} {base : Heap} {x : Str} {st : Stmt} {N ps : List Str} {k : Nat} {sp : Sp} (T : FnIn K mg x st) (S : FnScope N ps (defScope st)) (B : BindOk x st ps)
    (hl : ∀ vs H Q E, sp vs H Q E → vs.length = ps.length)
    (hbody : ∀ (f : Addr) (cdv : Value) (A : Around) (outer : List PySem.Env) (s : Shared) (H : Hp) (E : XK) (vs : List V) (Q : VK), Quiet P base (A.deeper (envOfC x (defScope st) s.heap.objs.size f cdv)) → Room k (A.deeper (envOfC x (defScope st) s.heap.objs.size f cdv)) →
      Takes (cxOf (L2.CX P w) P w K mg base N x (defScope st) f cdv A outer s H E) (fun cls d _ H => E cls d H) →
      PassesOwn (model P w) (A.deeper (envOfC x (defScope st) s.heap.objs.size f cdv)) (envOfC x (defScope st) s.heap.objs.size f cdv) (cxOf (L2.CX P w) P w K mg base N x (defScope st) f cdv A outer s H E).xe →
      sp vs H Q E → wss (cxOf (L2.CX P w) P w K mg base N x (defScope st) f cdv A outer s H E) (defBody st) { nx := fun _ H => Q .non H, rt := fun v H => Q v H, bk := fun _ _ => False, ct := fun _ _ => False } (L2.start N vs) H) : OkS P w K mg base x (k + 1) sp := by
  obtain ⟨f, fd, F, hm⟩ := T
  refine ⟨f, fd, ps, hm, F.kp, F.binds B, ?_⟩
  refine fng_of F S hl (fun cdv A outer s H vs Q E gd hr h => ?_)
  refine ⟨_, pss_wss, ?_⟩
  exact hbody f cdv A outer s H E vs Q gd hr (takes_of rfl rfl rfl rfl) (passes_of rfl) h
theorem lv_bare {K : PySem.W.Frag} {B H : Hp} {A : Addr → Prop} {σ : St} {n : Nat} (ex : Ex B H) (hn : σ.length = n) : Lv K ⟨B, H, A, []⟩ (List.replicate n .un) σ B H := by
  have u : ∀ {i : Nat} {s : Slot}, (List.replicate n Slot.un)[i]? = some s → s = .un := fun e => List.eq_of_mem_replicate (List.mem_of_getElem? e)
  refine ⟨ex, fun _ _ h _ => h, fun _ h => h, Ex.refl _, fun _ h _ _ => h, fun i d e => ?_, fun i s e w => ?_, fun i d e => ?_, fun i j s t v w S T a e1 e2 q1 q2 f1 f2 m1 m2 => ?_, ?_⟩
  · cases u e
  · rw [u e] at w; cases w
  · cases u e
  · rw [u e1] at f1; exact f1.elim
  · rw [List.length_replicate, hn]
theorem bare_rep (n : Nat) : bare (List.replicate n .un) := fun i s e => by rw [List.eq_of_mem_replicate (List.mem_of_getElem? e)]; rfl
theorem start_len {N : List Str} {vs : List V} (h : vs.length ≤ N.length) : (L2.start N vs).length = N.length := by
  unfold L2.start
  rw [List.length_append, List.length_map, List.length_replicate]; omega
def cutA (B : Hp) : Hp := fun x => match B x with
  | some (.lst _) => none
  | some (.dK _) => none
  | some (.dT _) => none
  | some (.ins _ _ _) => none
  | r => r
section
variable {K : PySem.W.Frag} {B H : Hp}
theorem cutA_ex (B : Hp) : Ex (cutA B) B := fun a o e => by
  unfold cutA at e
  split at e <;> first | cases e | exact e
theorem cutA_n {a : Addr} (h : B a = none) : cutA B a = none := by unfold cutA; rw [h]
theorem cutA_lst {a : Addr} {ys : List V} (h : B a = some (.lst ys)) : cutA B a = none := by unfold cutA; rw [h]
theorem cutA_nl {a : Addr} {ys : List V} (h : cutA B a = some (.lst ys)) : False := by
  have := cutA_ex B a _ h
  rw [cutA_lst this] at h; cases h
theorem cutA_tup {a : Addr} {vs : List V} (h : B a = some (.tup vs)) : cutA B a = some (.tup vs) := by unfold cutA; rw [h]
theorem cutA_rd {t : Addr} {xs : List V} (h : Rd B t (.tup xs)) : Rd (cutA B) t (.tup xs) := by
  rcases h with h | ⟨u, h⟩
  · exact .inl (cutA_tup h)
  · exact .inr ⟨u, by unfold cutA; rw [h]⟩
mutual
theorem Fz.cutA {v : V} {d : D} (n : d.noL = true) : Fz K B v d → Fz K (cutA B) v d
  | .non => .non
  | .bl b => .bl b
  | .int i => .int i
  | .str x => .str x
  | .lst _ _ => by simp [D.noL] at n
  | .tup h hs => .tup (h.imp (fun h => cutA_rd h) id) (Fzs.cutA (by simpa only [D.noL] using n) hs)
  | .scr _ => by simp [D.noL] at n
  | .dic _ _ _ => by simp [D.noL] at n
  | .dct _ _ _ => by simp [D.noL] at n
  | .ins _ _ _ _ => by simp [D.noL] at n
  | .obj a => .obj a
  | .key h => .key (cutA_tup h)
theorem Fzs.cutA {vs : List V} {ds : List D} (n : D.noLs ds = true) : Fzs K B vs ds → Fzs K (cutA B) vs ds
  | .nil => .nil
  | .cons h hs => by
    simp only [D.noLs, Bool.and_eq_true] at n
    exact .cons (Fz.cutA n.1 h) (Fzs.cutA n.2 hs)
end
theorem Its.cutA {m : Mk} {vs : List V} {ds : List D} {T : List Addr} (k : ∀ v d T, Tr K B H m v d T → lfN m d = true → Tr K (Dt.cutA B) H m v d T) (h : Its (Tr K B H m) vs ds T) : ds.all (lfN m) = true → Its (Tr K (Dt.cutA B) H m) vs ds T := by
  induction h with
  | nil => exact fun _ => .nil
  | cons a t ih =>
    intro n
    rw [List.all_cons, Bool.and_eq_true] at n
    exact .cons (k _ _ _ a n.1) (ih n.2)
mutual
theorem Tr.cutA : ∀ {m : Mk} {v : V} {d : D} {T : List Addr}, Tr K B H m v d T → lfN m d = true → Tr K (cutA B) H m v d T
  | .z, _, _, _, h, n => by
    unfold Tr at h ⊢
    exact ⟨h.1.cutA (by simpa only [lfN] using n), h.2⟩
  | .l m, _, _, _, h, n => by
    unfold Tr at h ⊢
    obtain ⟨a, vs, ds, T, rfl, rfl, b, q, i, rfl⟩ := h
    exact ⟨a, vs, ds, T, rfl, rfl, cutA_n b, q, i.cutA (fun v d T t n => Tr.cutA (m := m) t n) (by simpa only [lfN] using n), rfl⟩
  | .t ms, _, _, _, h, n => by
    unfold Tr at h ⊢
    obtain ⟨a, vs, ds, rfl, rfl, b, i⟩ := h
    exact ⟨a, vs, ds, rfl, rfl, cutA_tup b, TrT.cutA (ms := ms) i (by simpa only [lfN] using n)⟩
  | .e m, _, d, _, h, n => by
    unfold Tr at h ⊢
    obtain ⟨a, o, vs, ds, T, rfl, b, q, x, i, rfl⟩ := h
    have n2 : ds.all (lfN m) = true := by
      cases d with
      | dic _ _ => obtain ⟨rfl, _⟩ := x; simpa only [lfN] using n
      | dct _ _ => obtain ⟨rfl, _⟩ := x; simpa only [lfN] using n
      | ins _ _ _ => obtain ⟨rfl, _⟩ := x; simpa only [lfN] using n
      | _ => exact x.elim
    exact ⟨a, o, vs, ds, T, rfl, cutA_n b, q, x, i.cutA (fun v d T t n => Tr.cutA (m := m) t n) n2, rfl⟩
  | .g m, _, _, _, h, n => by
    unfold Tr at h ⊢
    obtain ⟨S0, t, rfl⟩ := h
    exact ⟨S0, Tr.cutA (m := m) t (by simpa only [lfN] using n), rfl⟩
  | .h ms, _, _, _, h, n => by
    unfold Tr at h ⊢
    obtain ⟨a, vs, ds, T, rfl, rfl, b, q, i, rfl⟩ := h
    exact ⟨a, vs, ds, T, rfl, rfl, cutA_n b, q, TrT.cutA (ms := ms) i (by simpa only [lfN] using n), rfl⟩
theorem TrT.cutA : ∀ {ms : Mks} {vs : List V} {ds : List D} {T : List Addr}, TrT K B H ms vs ds T → lfT ms ds = true → TrT K (cutA B) H ms vs ds T
  | .nil, _, _, _, h, _ => by
    unfold TrT at h ⊢
    exact h
  | .cons m r, _, _, _, h, n => by
    unfold TrT at h ⊢
    obtain ⟨v, vs, d, ds, S1, S2, rfl, rfl, t1, t2, rfl⟩ := h
    simp only [lfT, Bool.and_eq_true] at n
    exact ⟨v, vs, d, ds, S1, S2, rfl, rfl, Tr.cutA (m := m) t1 n.1, TrT.cutA (ms := r) t2 n.2, rfl⟩
end
theorem Ow.cutA {a : Addr} {d : D} (w : Ow K B H a d) (n : iNoL d = true) : Ow K (cutA B) H a d := by
  cases d with
  | lst ds => obtain ⟨h, vs, q, f⟩ := w; exact ⟨cutA_n h, vs, q, f.cutA n⟩
  | dic ks ds => obtain ⟨h, vs, q, l, f⟩ := w; exact ⟨cutA_n h, vs, q, l, f.cutA n⟩
  | dct ks ds => obtain ⟨h, vs, q, l, f⟩ := w; exact ⟨cutA_n h, vs, q, l, f.cutA n⟩
  | ins c ks ds => obtain ⟨h, vs, C, dx, q, l, f, k⟩ := w; exact ⟨cutA_n h, vs, C, dx, q, l, f.cutA n, k⟩
  | _ => exact w.elim
end
def lsB (B : Hp) (b : Addr) : Prop := ∃ ys, B b = some (.lst ys)
def spC (K : PySem.W.Frag) : Sp := fun vs H Q _ => ∃ (B : Hp) (v : V) (d : D), vs = [v] ∧ Ex B H ∧ Fz K B v d ∧ chOk d = true ∧ ∀ B' H', Cr (lsB B) (cutA B) H B' H' → Q .non H'
theorem chOk_inv {d : D} (h : chOk d = true) : ∃ sp x1 x2 x3 ls y1 y2 wy ss w1 cn, d = .tup [.lst (.tup [.lst sp, x1, x2, x3] :: ls), .lst (.tup [y1, y2, .lst wy] :: ss), .tup [w1, .lst cn]] ∧ sp.length < 10000 ∧ ls.length < 10000 ∧ wy.length < 10000 ∧ ss.length < 10000 ∧ cn.length < 10000 := by
  unfold chOk at h
  split at h
  · simp only [Bool.and_eq_true, decide_eq_true_eq] at h
    exact ⟨_, _, _, _, _, _, _, _, _, _, _, rfl, h.1.1.1.1, h.1.1.1.2, h.1.1.2, h.1.2, h.2⟩
  · cases h
theorem fzs_inv {K : PySem.W.Frag} {B : Hp} {vs : List V} {d : D} {ds : List D} (h : Fzs K B vs (d :: ds)) : ∃ v us, vs = v :: us ∧ Fz K B v d ∧ Fzs K B us ds := by
  cases h with | cons f g => exact ⟨_, _, rfl, f, g⟩
theorem lst_inv {K : PySem.W.Frag} {B : Hp} {v : V} {ds : List D} (h : Fz K B v (.lst ds)) : ∃ a xs, v = .ref a ∧ B a = some (.lst xs) ∧ Fzs K B xs ds := by
  cases h with | lst q f => exact ⟨_, _, rfl, q, f⟩
theorem tup_inv {K : PySem.W.Frag} {B : Hp} {v : V} {ds : List D} (h : Fz K B v (.tup ds)) : ∃ a xs, v = .ref a ∧ SqT K B a xs ∧ Fzs K B xs ds := by
  cases h with | tup q f => exact ⟨_, _, rfl, q, f⟩
theorem ch_places {K : PySem.W.Frag} {B H : Hp} {v : V} {d : D} (ex : Ex B H) (f : Fz K B v d) (h : chOk d = true) : ∃ al as_ sp wy cn, chP K v al as_ sp wy cn 10000 H ∧ ∀ a ∈ [al, as_, sp, wy, cn], lsB B a := by
  obtain ⟨sp, x1, x2, x3, ls, y1, y2, wy, ss, w1, cn, rfl, l1, l2, l3, l4, l5⟩ := chOk_inv h
  obtain ⟨t, us, rfl, ht, f⟩ := tup_inv f
  obtain ⟨_, us, rfl, f1, f⟩ := fzs_inv f
  obtain ⟨_, us, rfl, f2, f⟩ := fzs_inv f
  obtain ⟨_, us, rfl, f3, f⟩ := fzs_inv f
  obtain ⟨al, ws1, rfl, hal, g1⟩ := lst_inv f1
  obtain ⟨as_, ws2, rfl, has, g2⟩ := lst_inv f2
  obtain ⟨tc, ws3, rfl, htc, g3⟩ := tup_inv f3
  obtain ⟨_, ws1, rfl, p1, k1⟩ := fzs_inv g1
  obtain ⟨_, ws2, rfl, p2, k2⟩ := fzs_inv g2
  obtain ⟨_, ws3, rfl, p3, g3⟩ := fzs_inv g3
  obtain ⟨_, ws3, rfl, p4, g3⟩ := fzs_inv g3
  obtain ⟨tl, zs1, rfl, htl, p1⟩ := tup_inv p1
  obtain ⟨ts, zs2, rfl, hts, p2⟩ := tup_inv p2
  obtain ⟨cn', cs, rfl, hcn, p4⟩ := lst_inv p4
  obtain ⟨_, zs1, rfl, p1, q1⟩ := fzs_inv p1
  obtain ⟨_, zs2, rfl, _, q2⟩ := fzs_inv p2
  obtain ⟨_, zs2, rfl, _, q2⟩ := fzs_inv q2
  obtain ⟨_, zs2, rfl, p2, q2⟩ := fzs_inv q2
  obtain ⟨sp', ss', rfl, hsp, p1⟩ := lst_inv p1
  obtain ⟨wy', wz, rfl, hwy, p2⟩ := lst_inv p2
  have a0 : AtS K H (.ref t) [0] (.ref al) := .tup (ex.st ht) rfl .nil
  have a1 : AtS K H (.ref t) [1] (.ref as_) := .tup (ex.st ht) rfl .nil
  refine ⟨al, as_, sp', wy', cn', ⟨.tup (ex.st ht) rfl (.lst (ex _ _ hal) rfl (.tup (ex.st htl) rfl .nil)), .tup (ex.st ht) rfl (.lst (ex _ _ has) rfl (.tup (ex.st hts) rfl .nil)), .tup (ex.st ht) rfl (.tup (ex.st htc) rfl .nil), a0, a1,
    ⟨_, ex _ _ hsp, Nat.zero_le _, by rw [p1.len]; omega⟩, ⟨_, ex _ _ hwy, Nat.zero_le _, by rw [p2.len]; omega⟩, ⟨_, ex _ _ hcn, Nat.zero_le _, by rw [p4.len]; omega⟩, ⟨_, ex _ _ hal, Nat.zero_le _, by have := k1.len; rw [List.length_cons]; omega⟩, ⟨_, ex _ _ has, by rw [List.length_cons]; omega, by have := k2.len; rw [List.length_cons]; omega⟩⟩, fun a ha => ?_⟩
  simp only [List.mem_cons, List.not_mem_nil, or_false] at ha
  rcases ha with z | z | z | z | z
  · rw [z]; exact ⟨_, hal⟩
  · rw [z]; exact ⟨_, has⟩
  · rw [z]; exact ⟨_, hsp⟩
  · rw [z]; exact ⟨_, hwy⟩
  · rw [z]; exact ⟨_, hcn⟩
theorem okC_mk {P : Program} {w : World} {K : PySem.W.Frag} {mg : Str → Option Value} {base : Heap} {x : Str} {st : Stmt} {N ps : List Str} {k : Nat} (T : FnIn K mg x st) (S : FnScope N ps (defScope st)) (Bo : BindOk x st ps) (hp : ps.length = 1) (hN : 1 ≤ N.length)
    (hbody : ∀ (f : Addr) (cdv : Value) (A : Around) (outer : List PySem.Env) (s : Shared) (H : Hp) (E : XK) (F : Fr) (ρ : Env) (σ : St) (B H1 : Hp) (N1 : Ends) (v : V) (al as_ sp wy cn : Addr), Lv K F ρ σ B H1 → bare ρ → σ[0]? = some (some v) → chP K v al as_ sp wy cn 10000 H1 → (∀ a ∈ [al, as_, sp, wy, cn], B a = none ∧ (F.A a ∨ F.H0 a = none)) →
      (∀ B' H', Ex B B' → Lv K F ρ σ B' H' → N1.nx σ H') → wss (cxOf (L2.CX P w) P w K mg base N x (defScope st) f cdv A outer s H E) (defBody st) N1 σ H1) : OkS P w K mg base x (k + 1) (spC K) := by
  refine okS_mk T S Bo (fun vs H Q E h => by obtain ⟨_, _, _, rfl, _⟩ := h; exact hp.symm) (fun f cdv A outer s H E vs Q gd hr tk po h => ?_)
  obtain ⟨B, v, d, rfl, ex, fz, hc, hq⟩ := h
  obtain ⟨al, as_, sp, wy, cn, hP, hL⟩ := ch_places ex fz hc
  refine hbody f cdv A outer s H E ⟨cutA B, H, lsB B, []⟩ (List.replicate N.length .un) _ (cutA B) H _ v al as_ sp wy cn (lv_bare ((cutA_ex B).trans ex) (start_len hN)) (bare_rep _) rfl hP (fun a ha => ?_) (fun B' H' e' L' => hq B' H' ⟨L'.ex, L'.exB, L'.kept, L'.hid, L'.there⟩)
  obtain ⟨ys, h⟩ := hL a ha
  exact ⟨cutA_lst h, .inl ⟨ys, h⟩⟩
open Classical in
noncomputable def mChg (i : Nat) : M Fl := fun ρ => match ρ[i]? with
  | some (.dp m d) => if m = mkN ∧ chOk d = true ∧ lfN mkN d = true then .ok .nx (ρ.set i .un) else .fail
  | _ => .fail
theorem mkN_ls {K : PySem.W.Frag} {B H : Hp} {v : V} {d : D} {S : List Addr} (t : Tr K B H mkN v d S) : ∀ a ∈ S, ∃ ys, H a = some (.lst ys) := by
  have l1 : ∀ {v d T}, Tr K B H (.l .z) v d T → ∀ a ∈ T, ∃ ys, H a = some (.lst ys) := fun {v d T} t => by
    unfold Tr at t
    obtain ⟨a, ws, es, U, rfl, rfl, _, h, i, rfl⟩ := t
    obtain ⟨_, rfl⟩ := its_z i
    intro b hb
    rw [List.mem_singleton.mp hb]; exact ⟨_, h⟩
  have z1 : ∀ {v d T}, Tr K B H .z v d T → T = [] := fun {v d T} t => by unfold Tr at t; exact t.2
  have L1 : ∀ {v d T}, Tr K B H mkL v d T → ∀ a ∈ T, ∃ ys, H a = some (.lst ys) := fun {v d T} t => by
    unfold Tr at t
    obtain ⟨a, us, xs, rfl, rfl, hb, tt⟩ := t
    simp only [TrT] at tt
    obtain ⟨v1, us, d1, xs, S1, S2, rfl, rfl, t1, ⟨v2, us, d2, xs, S3, S4, rfl, rfl, t2, ⟨v3, us, d3, xs, S5, S6, rfl, rfl, t3, ⟨v4, us, d4, xs, S7, S8, rfl, rfl, t4, ⟨rfl, rfl, rfl⟩, rfl⟩, rfl⟩, rfl⟩, rfl⟩ := tt
    rw [z1 t2, z1 t3, z1 t4]
    simpa using l1 t1
  have S1 : ∀ {v d T}, Tr K B H mkS v d T → ∀ a ∈ T, ∃ ys, H a = some (.lst ys) := fun {v d T} t => by
    unfold Tr at t
    obtain ⟨a, us, xs, rfl, rfl, hb, tt⟩ := t
    simp only [TrT] at tt
    obtain ⟨v1, us, d1, xs, S1, S2, rfl, rfl, t2, ⟨v2, us, d2, xs, S3, S4, rfl, rfl, t3, ⟨v3, us, d3, xs, S5, S6, rfl, rfl, t1, ⟨rfl, rfl, rfl⟩, rfl⟩, rfl⟩, rfl⟩ := tt
    rw [z1 t2, z1 t3]
    simpa using l1 t1
  unfold Tr at t
  obtain ⟨at_, us, xs, rfl, rfl, hbt, tt⟩ := t
  simp only [TrT] at tt
  obtain ⟨v1, us, d1, xs, S1', S2, rfl, rfl, t1, ⟨v2, us, d2, xs, S3, S4, rfl, rfl, t2, ⟨v3, us, d3, xs, S5, S6, rfl, rfl, t3, ⟨rfl, rfl, rfl⟩, rfl⟩, rfl⟩, rfl⟩ := tt
  unfold Tr at t1 t2 t3
  obtain ⟨al, w1, ls1, T1, rfl, rfl, bal, hal, i1, rfl⟩ := t1
  obtain ⟨as_, w2, ls2, T2, rfl, rfl, bas, has, i2, rfl⟩ := t2
  obtain ⟨ac, w3, ls3, rfl, rfl, bac, tt3⟩ := t3
  simp only [TrT] at tt3
  obtain ⟨v4, us, d4, xs, S7, S8, rfl, rfl, t4, ⟨v5, us, d5, xs, S9, S10, rfl, rfl, t5, ⟨rfl, rfl, rfl⟩, rfl⟩, rfl⟩ := tt3
  intro a ha
  simp only [List.mem_append, List.mem_cons, List.not_mem_nil, or_false] at ha
  rcases ha with (h | h) | ((h | h) | (h | h))
  · rw [h]; exact ⟨_, hal⟩
  · exact i1.all (fun v d T r => L1 r) a h
  · rw [h]; exact ⟨_, has⟩
  · exact i2.all (fun v d T r => S1 r) a h
  · rw [z1 t4] at h; cases h
  · exact l1 t5 a h
section
variable {X : Cx} {W : WX} {pos : Pos}
theorem sv_chg {x y : Str} {i k j : Nat} {p py cpos : Pos} (G : OkS X.prog X.w X.K X.mg X.base x k (spC X.K)) (gd : Quiet X.prog X.base X.A) (hr : Room j X.A) (tk : Takes X W) (hk : k ≤ j := by decide) (hg : Gl X x := by rfl) (hdb : (x == ("__debug__" : Str)) = false := by decide)
    (hN : X.N[i]? = some y := by rfl) (hv : Vis X.env.scope y := by first | exact Or.inl rfl | exact Or.inr (Or.inl rfl) | exact Or.inr (Or.inr rfl)) (hd : (y == ("__debug__" : Str)) = false := by decide)
    (hcd : (y == ("__classdict__" : Str)) = false := by decide)
    (he : starEach (.Name y py :: []) X.env = (false, eval (.Name y py) X.env) :: starEach [] X.env := by rfl) (hpl : (backTo cpos (starEach [] X.env)).any (·.1) = false := by rfl)
    (hs : swapsWith (.Call (.Name x p) [.Name y py] [] cpos) none pos.line X.env = pure false := by rfl) :
    SV X W (.Expr (.Call (.Name x p) [.Name y py] [] cpos) pos) (mChg i) := by
  obtain ⟨f, fd, ps, hm, kp, hb, G⟩ := G
  intro F ρ σ B H N L P
  refine PS.ws (ps_expr (pe_callG G gd (hr.mono hk) hg hm kp hb (fun σ => passAt tk σ) (pa_cons (pe_var hN hv hd hcd) pa_nil he) hdb he hpl) hs) ?_
  have P' : PostS X W F B (mChg i ρ) N := P
  unfold mChg at P'
  split at P'
  · rename_i m d e
    split at P'
    · rename_i hc
      obtain ⟨rfl, hc, hl⟩ := hc
      obtain ⟨v, S, q, ft, gS, noS, L1⟩ := L.take e rfl
      refine ⟨v, q, ?_⟩
      have ls := mkN_ls ft.1
      have exA : Ex (cutA B) H := (cutA_ex B).trans L.ex
      have lsS : ∀ b, lsB (frzB (cutA B) H S) b → b ∈ S := fun b ⟨ys, h⟩ => Classical.byContradiction fun z => by
        rw [frzB_out z] at h
        exact cutA_nl h
      refine ⟨frzB (cutA B) H S, v, d, rfl, frzB_up exA, (Tr.cutA ft.1 hl).fz exA fun a h => h, hc, fun B' H' cr => ?_⟩
      refine P' σ B H' (Ex.refl _) (L1.move (fun a o h => ?_) (Ex.refl _) (fun a w => ⟨(L1.hidOw w).1, fun o h => ?_⟩) (fun a o h n => ?_) (fun a h => cr.there a (L1.there a h)) L1.hid)
      · exact cr.kept a o (L.ex a o h) fun z => by
          have := (ft.hid a (lsS a z)).1
          rw [h] at this; cases this
      · exact cr.kept a o h fun z => noS a (lsS a z) w
      · refine cr.kept a o (L1.kept a o h n) fun z => ?_
        rcases gS a (lsS a z) with g | g
        · exact n g
        · rw [g] at h; cases h
    · exact P'.elim
  · exact P'.elim
end
end Dt
namespace Dt
open PySem PySem.Spec PyProof.Rows L2
abbrev OL := Addr × D × D × D
abbrev OS := D × D × Addr
def eOL (l : OL) : D := .tup [.obj l.1, l.2.1, l.2.2.1, l.2.2.2]
def eOS (s : OS) : D := .tup [s.1, s.2.1, .obj s.2.2]
def OV (ls : List OL) (ss : List OS) (c : D × Addr) : D := .tup [.lst (ls.map eOL), .lst (ss.map eOS), .tup [c.1, .obj c.2]]
def objs (ls : List OL) (ss : List OS) (c : D × Addr) : List Addr := ls.map (·.1) ++ ss.map (·.2.2) ++ [c.2]
def itA : D → D
  | .tup (x :: _) => x
  | d => d
def itC : D → D
  | .tup [_, _, x] => x
  | d => d
def nLs : D → List D
  | .tup [.lst ls, .lst ss, .tup [_, c]] => ls.map itA ++ ss.map itC ++ [c]
  | _ => []
def apOk : D → Bool
  | .tup [.lst ls, .lst ss, .tup [_, .lst cs]] => decide (ls.length < 1000) && decide (ss.length < 1000) && (ls.all fun d => match d with
    | .tup [.lst xs, _, _, _] => decide (xs.length < 10000)
    | _ => false) && ((ss.all fun d => match d with
    | .tup [_, _, .lst xs] => decide (xs.length < 10000)
    | _ => false) && decide (cs.length < 10000))
  | _ => false
section
variable {K : PySem.W.Frag} {B H : Hp}
theorem its_lines : ∀ {vs : List V} {ds : List D} {T : List Addr}, Its (Tr K B H mkL) vs ds T → ∃ ls : List OL, Fzs K B vs (ls.map eOL) ∧ T = ls.map (·.1) ∧ Its (Tr K B H (.l .z)) (ls.map fun l => V.ref l.1) (ds.map itA) T ∧ ls.length = ds.length
  | _, _, _, .nil => ⟨[], .nil, rfl, .nil, rfl⟩
  | v :: vs, d :: ds, _, .cons (S := S) (T := T) r t => by
    obtain ⟨ls, f, rfl, i, hl⟩ := its_lines t
    have r0 := r
    unfold Tr at r0
    obtain ⟨a, us, xs, rfl, rfl, hb, tt⟩ := r0
    simp only [TrT] at tt
    obtain ⟨v1, us, d1, xs, S1, S2, rfl, rfl, t1, ⟨v2, us, d2, xs, S3, S4, rfl, rfl, t2, ⟨v3, us, d3, xs, S5, S6, rfl, rfl, t3, ⟨v4, us, d4, xs, S7, S8, rfl, rfl, t4, ⟨rfl, rfl, rfl⟩, rfl⟩, rfl⟩, rfl⟩, rfl⟩ := tt
    have t1' := t1
    unfold Tr at t1' t2 t3 t4
    obtain ⟨f2, rfl⟩ := t2
    obtain ⟨f3, rfl⟩ := t3
    obtain ⟨f4, rfl⟩ := t4
    obtain ⟨sp, ws, es, U, rfl, rfl, hbs, hhs, itz, rfl⟩ := t1'
    obtain ⟨fz, rfl⟩ := its_z itz
    refine ⟨(sp, d2, d3, d4) :: ls, .cons (.tup (.inl (.inl hb)) (.cons (.obj sp) (.cons f2 (.cons f3 (.cons f4 .nil))))) f, by simp, ?_, by rw [List.length_cons, List.length_cons, hl]⟩
    have := Its.cons t1 i
    show Its (Tr K B H (.l .z)) (V.ref sp :: ls.map fun l => V.ref l.1) (D.lst es :: ds.map itA) _
    simpa using this
theorem its_stands : ∀ {vs : List V} {ds : List D} {T : List Addr}, Its (Tr K B H mkS) vs ds T → ∃ ss : List OS, Fzs K B vs (ss.map eOS) ∧ T = ss.map (·.2.2) ∧ Its (Tr K B H (.l .z)) (ss.map fun s => V.ref s.2.2) (ds.map itC) T ∧ ss.length = ds.length
  | _, _, _, .nil => ⟨[], .nil, rfl, .nil, rfl⟩
  | v :: vs, d :: ds, _, .cons (S := S) (T := T) r t => by
    obtain ⟨ls, f, rfl, i, hl⟩ := its_stands t
    have r0 := r
    unfold Tr at r0
    obtain ⟨a, us, xs, rfl, rfl, hb, tt⟩ := r0
    simp only [TrT] at tt
    obtain ⟨v1, us, d1, xs, S1, S2, rfl, rfl, t2, ⟨v2, us, d2, xs, S3, S4, rfl, rfl, t3, ⟨v3, us, d3, xs, S5, S6, rfl, rfl, t1, ⟨rfl, rfl, rfl⟩, rfl⟩, rfl⟩, rfl⟩ := tt
    have t1' := t1
    unfold Tr at t1' t2 t3
    obtain ⟨f2, rfl⟩ := t2
    obtain ⟨f3, rfl⟩ := t3
    obtain ⟨sp, ws, es, U, rfl, rfl, hbs, hhs, itz, rfl⟩ := t1'
    obtain ⟨fz, rfl⟩ := its_z itz
    refine ⟨(d1, d2, sp) :: ls, .cons (.tup (.inl (.inl hb)) (.cons f2 (.cons f3 (.cons (.obj sp) .nil)))) f, by simp, ?_, by rw [List.length_cons, List.length_cons, hl]⟩
    have := Its.cons t1 i
    show Its (Tr K B H (.l .z)) (V.ref sp :: ls.map fun s => V.ref s.2.2) (D.lst es :: ds.map itC) _
    simpa using this
theorem its_cat {R : V → D → List Addr → Prop} {ws : List V} {es : List D} {T : List Addr} (h2 : Its R ws es T) : ∀ {vs : List V} {ds : List D} {S : List Addr}, Its R vs ds S → Its R (vs ++ ws) (ds ++ es) (S ++ T)
  | _, _, _, .nil => h2
  | _, _, _, .cons (S := S) (T := U) r t => by
    have := Its.cons r (its_cat h2 t)
    simpa using this
theorem fzs_obj : ∀ {as_ : List Addr} {vs : List V}, Fzs K B vs (as_.map D.obj) → vs = as_.map V.ref
  | [], _, h => by cases h; rfl
  | a :: as_, _, h => by
    cases h with
    | cons f fs =>
      cases f
      rw [fzs_obj fs]; rfl
end
def spA (K : PySem.W.Frag) : Sp := fun vs H Q _ => ∃ (B : Hp) (v : V) (d : D) (S : List Addr), vs = [v] ∧ Ex B H ∧ Tr K B H mkN v d S ∧ S.Nodup ∧ apOk d = true ∧ ∀ B' H', Cr (fun b => b ∈ S) B H B' H' → Q (.bl true) H'
theorem okA_mk {P : Program} {w : World} {K : PySem.W.Frag} {mg : Str → Option Value} {base : Heap} {x : Str} {st s1 : Stmt} {rest : List Stmt} {N ps : List Str} {k : Nat} (T : FnIn K mg x st) (Sc : FnScope N ps (defScope st)) (Bo : BindOk x st ps) (hp : ps.length = 1) (hN : N.length = 6) (hst : defBody st = s1 :: rest) {f1 f2 : M Fl}
    (hbody : ∀ (f : Addr) (cdv : Value) (A : Around) (outer : List PySem.Env) (s : Shared) (H : Hp) (E : XK), Quiet P base (A.deeper (envOfC x (defScope st) s.heap.objs.size f cdv)) → Room k (A.deeper (envOfC x (defScope st) s.heap.objs.size f cdv)) →
      Takes (cxOf (L2.CX P w) P w K mg base N x (defScope st) f cdv A outer s H E) (fun cls d _ H => E cls d H) →
      PassesOwn (model P w) (A.deeper (envOfC x (defScope st) s.heap.objs.size f cdv)) (envOfC x (defScope st) s.heap.objs.size f cdv) (cxOf (L2.CX P w) P w K mg base N x (defScope st) f cdv A outer s H E).xe →
      SV (cxOf (L2.CX P w) P w K mg base N x (defScope st) f cdv A outer s H E) (fun cls d _ H => E cls d H) s1 f1 ∧ SVs (cxOf (L2.CX P w) P w K mg base N x (defScope st) f cdv A outer s H E) (fun cls d _ H => E cls d H) rest f2)
    (e1 : ∀ ls ss c, ls.length < 1000 → ss.length < 1000 → f1 [.fz (OV ls ss c), .un, .un, .un, .un, .un] = .ok .nx [.fz (OV ls ss c), .ow (.lst ((objs ls ss c).map D.obj)), .un, .un, .un, .un])
    (e2 : ∀ d, apOk d = true → ∃ ρ, f2 [.un, .dp (.l (.l .z)) (.lst (nLs d)), .un, .un, .un, .un] = .ok (.rt (.bl true) .ff) ρ) : OkS P w K mg base x (k + 1) (spA K) := by
  refine okS_mk T Sc Bo (fun vs H Q E h => by obtain ⟨_, _, _, _, rfl, _⟩ := h; exact hp.symm) (fun f cdv A outer s H E vs Q gd hr tk po h => ?_)
  obtain ⟨hb1, hb2⟩ := hbody f cdv A outer s H E gd hr tk po
  obtain ⟨B, v, d, S, rfl, ex, t, nd, hc, hq⟩ := h
  have t0 := t
  unfold Tr at t0
  obtain ⟨at_, us, xs, rfl, rfl, hbt, tt⟩ := t0
  simp only [TrT] at tt
  obtain ⟨v1, us, d1, xs, S1, S2, rfl, rfl, t1, ⟨v2, us, d2, xs, S3, S4, rfl, rfl, t2, ⟨v3, us, d3, xs, S5, S6, rfl, rfl, t3, ⟨rfl, rfl, rfl⟩, rfl⟩, rfl⟩, rfl⟩ := tt
  unfold Tr at t1 t2 t3
  obtain ⟨al, w1, l1, T1, rfl, rfl, bal, hal, i1, rfl⟩ := t1
  obtain ⟨as_, w2, l2, T2, rfl, rfl, bas, has, i2, rfl⟩ := t2
  obtain ⟨ac, w3, l3, rfl, rfl, bac, tt3⟩ := t3
  simp only [TrT] at tt3
  obtain ⟨v4, us, d4, xs, S7, S8, rfl, rfl, t4, ⟨v5, us, d5, xs, S9, S10, rfl, rfl, t5, ⟨rfl, rfl, rfl⟩, rfl⟩, rfl⟩ := tt3
  have t5' := t5
  unfold Tr at t4 t5'
  obtain ⟨f4, rfl⟩ := t4
  obtain ⟨cn, wc, dc, Tc, rfl, rfl, bcn, hcn, ic, rfl⟩ := t5'
  obtain ⟨fzc, rfl⟩ := its_z ic
  obtain ⟨ls, fls, rfl, j1, n1⟩ := its_lines i1
  obtain ⟨ss, fss, rfl, j2, n2⟩ := its_stands i2
  have hc' := hc
  unfold apOk at hc'
  simp only [Bool.and_eq_true, decide_eq_true_eq] at hc'
  -- the frozen part holds the two outer lists
  have hS : ∀ c, c ∈ al :: ls.map (·.1) ++ (as_ :: ss.map (·.2.2) ++ ([] ++ ([cn] ++ []) ++ [])) ↔ c = al ∨ c = as_ ∨ c ∈ objs ls ss (d4, cn) := fun c => by
    unfold objs
    simp only [List.mem_append, List.mem_cons, List.not_mem_nil, or_false, false_or]
    constructor
    · rintro ((h | h) | ((h | h) | h))
      · exact .inl h
      · exact .inr (.inr (.inl (.inl h)))
      · exact .inr (.inl h)
      · exact .inr (.inr (.inl (.inr h)))
      · exact .inr (.inr (.inr h))
    · rintro (h | h | ((h | h) | h))
      · exact .inl (.inl h)
      · exact .inr (.inl (.inl h))
      · exact .inl (.inr h)
      · exact .inr (.inl (.inr h))
      · exact .inr (.inr h)
  have hid := t.hid
  have nob : (objs ls ss (d4, cn)).Nodup ∧ al ∉ objs ls ss (d4, cn) ∧ as_ ∉ objs ls ss (d4, cn) := by
    unfold objs
    simp only [List.nil_append, List.append_nil] at nd
    obtain ⟨n1, n2, dj⟩ := List.nodup_append.mp nd
    obtain ⟨m1, m2, dk⟩ := List.nodup_append.mp n2
    obtain ⟨p1, p2⟩ := List.nodup_cons.mp n1
    obtain ⟨q1, q2⟩ := List.nodup_cons.mp m1
    refine ⟨List.nodup_append.mpr ⟨List.nodup_append.mpr ⟨p2, q2, fun a ha b hb e => dj a (by simp [ha]) b (by simp [hb]) e⟩, by simp, fun a ha b hb e => ?_⟩, fun h => ?_, fun h => ?_⟩
    · rw [List.mem_singleton] at hb
      rcases List.mem_append.mp ha with h | h
      · exact dj a (by simp [h]) b (by simp [hb]) e
      · exact dk a (by simp [h]) b (by simp [hb]) e
    · rcases List.mem_append.mp h with h | h
      · rcases List.mem_append.mp h with h | h
        · exact p1 h
        · exact dj al (by simp) al (by simp [h]) rfl
      · exact dj al (by simp) al (by rw [List.mem_singleton] at h; simp [h]) rfl
    · rcases List.mem_append.mp h with h | h
      · rcases List.mem_append.mp h with h | h
        · exact dj as_ (by simp [h]) as_ (by simp) rfl
        · exact q1 h
      · exact dk as_ (by simp) as_ (by rw [List.mem_singleton] at h; simp [h]) rfl
  obtain ⟨nob, nal, nas⟩ := nob
  have exB : Ex B (frzB B H [al, as_]) := frzB_ex ex
  have hal1 : frzB B H [al, as_] al = some (.lst w1) := by rw [frzB_in (by simp)]; exact hal
  have has1 : frzB B H [al, as_] as_ = some (.lst w2) := by rw [frzB_in (by simp)]; exact has
  have ob : ∀ c ∈ objs ls ss (d4, cn), frzB B H [al, as_] c = none ∧ Ct H c := fun c hc => by
    have h := hid c ((hS c).mpr (.inr (.inr hc)))
    exact ⟨by rw [frzB_out (by simp; exact ⟨fun z => nal (z ▸ hc), fun z => nas (z ▸ hc)⟩)]; exact h.1, h.2⟩
  have lst0 : (L2.start N [V.ref at_]).length = 6 := by rw [start_len (by simp; omega), hN]
  have st0 : (L2.start N [V.ref at_])[0]? = some (some (V.ref at_)) := rfl
  have L1 : Lv K ⟨frzB B H [al, as_], H, fun _ => False, []⟩ [.fz (OV ls ss (d4, cn)), .un, .un, .un, .un, .un] (L2.start N [V.ref at_]) (frzB B H [al, as_]) H :=
    (lv_bare (n := 6) (frzB_up ex) lst0).slot (i := 0) (t := .fz (OV ls ss (d4, cn))) rfl (fun d' z _ => by
      injection z with z; subst z
      exact ⟨_, st0, .tup (.inl (.inl (exB _ _ hbt))) (.cons (.lst hal1 (fls.mono exB)) (.cons (.lst has1 (fss.mono exB)) (.cons (.tup (.inl (.inl (exB _ _ bac))) (.cons (f4.mono exB) (.cons (.obj cn) .nil))) .nil)))⟩)
  have L0 : Lv K ⟨B, H, fun b => b ∈ al :: ls.map (·.1) ++ (as_ :: ss.map (·.2.2) ++ ([] ++ ([cn] ++ []) ++ [])), []⟩ (List.replicate 6 .un) (L2.start N [V.ref at_]) (frzB B H [al, as_]) H :=
    (lv_bare (n := 6) ex lst0).freezeS (S := [al, as_]) (fun a ha => .inl ((hS a).mpr (by simp at ha; rcases ha with h | h <;> simp [h]))) (fun a _ => (bare_rep 6).no a)
  rw [hst]
  refine PSs.wss (pss_cons ps_ws pss_wss) ?_
  refine hb1 _ _ _ _ _ _ L1 ?_
  rw [e1 ls ss (d4, cn) (by rw [n1]; exact hc'.1.1.1) (by rw [n2]; exact hc'.1.1.2)]
  intro σ1 B2 H2 e12 L2
  have LF := L0.backX L2 (fun a z => z.elim)
  have rg : ∀ c ∈ objs ls ss (d4, cn), B2 c = none ∧ ∀ o, H c = some o → H2 c = some o := fun c hc => ⟨L2.hid c (ob c hc).1 (ob c hc).2 (fun z => z), fun o q => L2.kept c o q (fun z => z)⟩
  obtain ⟨s, hs, ⟨hbs, vs, hHs, fvs⟩, gs⟩ := L2.ow 1 _ rfl rfl
  have gs : H s = none := gs.elim (fun z => z.elim) id
  obtain rfl := fzs_obj fvs
  have eBB : Ex B B2 := exB.trans e12
  have mono : ∀ {vs : List V} {ds : List D} {T : List Addr}, Its (Tr K B H (.l .z)) vs ds T → (∀ c ∈ T, c ∈ objs ls ss (d4, cn)) → Its (Tr K B2 H2 (.l .z)) vs ds T := fun i h => i.imp fun v d U r sb => r.keep eBB (fun c hc => (rg c (h c (sb c hc))).1) (fun c hc => (rg c (h c (sb c hc))).2)
  have J : Its (Tr K B2 H2 (.l .z)) ((objs ls ss (d4, cn)).map V.ref) (nLs (.tup [.lst l1, .lst l2, .tup [d4, .lst dc]])) (objs ls ss (d4, cn)) := by
    have c1 := mono j1 (fun c hc => by unfold objs; simp only [List.mem_append]; exact .inl (.inl hc))
    have c2 := mono j2 (fun c hc => by unfold objs; simp only [List.mem_append]; exact .inl (.inr hc))
    have c3 : Its (Tr K B2 H2 (.l .z)) [V.ref cn] [.lst dc] [cn] := by
      have := mono (Its.cons (S := [cn]) (T := []) t5 .nil) (fun c hc => by
        simp at hc; rw [hc]; unfold objs; simp)
      simpa using this
    have := its_cat c3 (its_cat c2 c1)
    have e : (objs ls ss (d4, cn)).map V.ref = ls.map (fun l => V.ref l.1) ++ ss.map (fun s => V.ref s.2.2) ++ [V.ref cn] := by
      unfold objs; rw [List.map_append, List.map_append, List.map_map, List.map_map]; rfl
    rw [e]
    exact this
  have Lu := LF.slot (i := 0) (t := .un) rfl (fun d z => nomatch z)
  have no2 : ∀ c ∈ s :: objs ls ss (d4, cn), ¬ OwS K B2 H2 (([.fz (OV ls ss (d4, cn)), .ow (.lst ((objs ls ss (d4, cn)).map D.obj)), .un, .un, .un, .un] : Env).set 0 .un |>.set 1 .un) σ1 c := fun c hc ⟨j, sl, v, U, e, _, ft, _⟩ => by
    have : ∀ sl ∈ (([.fz (OV ls ss (d4, cn)), .ow (.lst ((objs ls ss (d4, cn)).map D.obj)), .un, .un, .un, .un] : Env).set 0 .un |>.set 1 .un), sl = .un := by
      intro sl h
      simp at h
      exact h
    rw [this _ (List.mem_of_getElem? e)] at ft
    exact ft.elim
  have L4 := Lu.own (i := 1) (t := .dp (.l (.l .z)) (.lst (nLs (.tup [.lst l1, .lst l2, .tup [d4, .lst dc]])))) hs (S := s :: objs ls ss (d4, cn)) ⟨by unfold Tr; exact ⟨s, _, _, _, rfl, rfl, hbs, hHs, J, rfl⟩, List.nodup_cons.mpr ⟨fun z => (ob s z).2.ne gs, nob⟩⟩ (fun c hc => by
      rcases List.mem_cons.mp hc with z | z
      · rw [z]; exact .inr gs
      · exact .inl ((hS c).mpr (.inr (.inr z)))) no2 (fun d z => nomatch z)
  obtain ⟨ρ', h2⟩ := e2 _ hc
  refine hb2 _ [.un, .dp (.l (.l .z)) (.lst (nLs (.tup [.lst l1, .lst l2, .tup [d4, .lst dc]]))), .un, .un, .un, .un] σ1 B2 H2 _ L4 ?_
  rw [h2]
  intro v σ' B' H' e' L' vo
  have vo : Fz K B' v (.bl true) := vo
  cases vo
  exact hq B' H' ⟨L'.ex, L'.exB, L'.kept, L'.hid, L'.there⟩
open Classical in
noncomputable def mApt (fe : M (D × Ob)) : M D := M.bind fe fun p ρ => if p.2 = .dp mkN ∧ apOk p.1 = true then .ok (.bl true) ρ else .fail
section
variable {X : Cx} {W : WX} {pos : Pos} {e : Expr}
theorem ev_apt {x : Str} {k j : Nat} {p : Pos} {fe : M (D × Ob)} (G : OkS X.prog X.w X.K X.mg X.base x k (spA X.K)) (gd : Quiet X.prog X.base X.A) (hr : Room j X.A) (tk : Takes X W) (h : EO X W e fe) (hk : k ≤ j := by decide) (hg : Gl X x := by rfl) (hdb : (x == ("__debug__" : Str)) = false := by decide)
    (he : starEach (e :: []) X.env = (false, eval e X.env) :: starEach [] X.env := by exact star_un rfl) (hpl : (backTo pos (starEach [] X.env)).any (·.1) = false := by rfl) : EV X W (.Call (.Name x p) [e] [] pos) (mApt fe) := by
  obtain ⟨f, fd, ps, hm, kp, hb, G⟩ := G
  intro F ρ σ B H Q L P
  refine PE.we (pe_callG G gd (hr.mono hk) hg hm kp hb (fun σ => passAt tk σ) (pa_cons pe_we pa_nil he) hdb he hpl) ?_
  refine h F ρ σ B H _ L ((Post.bind P).imp fun p ρ1 B1 H1 e1 L1 P1 v vo => ?_)
  obtain ⟨d, o⟩ := p
  dsimp only at P1
  split at P1
  · rename_i hc
    obtain ⟨rfl, hc2⟩ := hc
    obtain ⟨S, t, nd, g⟩ := vo
    refine ⟨B1, v, d, S, rfl, L1.ex, t, nd, hc2, fun B' H' cr => ?_⟩
    exact P1 B' H' cr.exB (L1.callN cr (fun b hb => (g b hb).1) (fun b hb => (g b hb).2)) _ (.bl true)
  · exact P1.elim
end
end Dt
namespace Dt
open PySem PySem.Spec PyProof.Rows L2
theorem Lv.moreP {K : PySem.W.Frag} {F : Fr} {ρ : Env} {σ : St} {B H : Hp} {P : List (Option Addr)} (L : Lv K F ρ σ B H) (h : ∀ (i : Nat) (b : Addr), F.P[i]? = some (some b) → P[i]? = some (some b)) : Lv K ⟨F.B0, F.H0, F.A, P⟩ ρ σ B H :=
  ⟨L.ex, L.kept, L.there, L.exB, L.hid, L.fz, L.own0, fun i d e => by obtain ⟨a, h1, h2⟩ := L.io i d e; exact ⟨a, h i a h1, h2⟩, L.ne0, L.len⟩
def sh0 (dS dl ds dc : D) : Env := [.io dS, .un, .io dl, .io ds, .fz dc, .un, .un]
def sh1 (dS t : D) : Env := [.io dS, .fz t, .un, .un, .un, .un, .un]
def sh2 (dS t l s c : D) : Env := [.io dS, .fz t, .fz l, .fz s, .fz c, .un, .un]
def sh3 (ρ : List Slot) : Option (D × D × D) := match ρ[0]?, ρ[2]?, ρ[3]? with
  | some (Slot.io a), some (Slot.io b), some (Slot.io c) => some (a, b, c)
  | _, _, _ => none
def shG (f2 : M Fl) (dS dl ds dc : D) : Option (D × D × D) := match f2 (sh0 dS dl ds dc) with
  | .ok .nx ρ' => sh3 ρ'
  | _ => none
def in3 (a b c : Addr) (x : Addr) : Prop := x = a ∨ x = b ∨ x = c
def spS (K : PySem.W.Frag) (g : D → D → D → D → Option (D × D × D)) : Sp := fun vs H Q _ => ∃ (B : Hp) (a t al as_ : Addr) (vc : V) (dS dl ds dc : D), vs = [.ref a, .ref t] ∧ Ex B H ∧ B t = some (.tup [.ref al, .ref as_, vc]) ∧ Ow K B H a dS ∧ Ow K B H al dl ∧ Ow K B H as_ ds ∧ Fz K B vc dc ∧ a ≠ al ∧ a ≠ as_ ∧ al ≠ as_ ∧
  ∃ dS' dl' ds', g dS dl ds dc = some (dS', dl', ds') ∧ ∀ B' H', Cr (in3 a al as_) B H B' H' → Ow K B' H' a dS' → Ow K B' H' al dl' → Ow K B' H' as_ ds' → Q .non H'
theorem okSh_mk {P : Program} {w : World} {K : PySem.W.Frag} {mg : Str → Option Value} {base : Heap} {x : Str} {st s1 : Stmt} {rest : List Stmt} {N ps : List Str} {k : Nat} (T : FnIn K mg x st) (Sc : FnScope N ps (defScope st)) (Bo : BindOk x st ps) (hp : ps.length = 2) (hN : N.length = 7) (hst : defBody st = s1 :: rest) {f1 f2 : M Fl}
    (hbody : ∀ (f : Addr) (cdv : Value) (A : Around) (outer : List PySem.Env) (s : Shared) (H : Hp) (E : XK), Quiet P base (A.deeper (envOfC x (defScope st) s.heap.objs.size f cdv)) → Room k (A.deeper (envOfC x (defScope st) s.heap.objs.size f cdv)) →
      Takes (cxOf (L2.CX P w) P w K mg base N x (defScope st) f cdv A outer s H E) (fun cls d _ H => E cls d H) →
      PassesOwn (model P w) (A.deeper (envOfC x (defScope st) s.heap.objs.size f cdv)) (envOfC x (defScope st) s.heap.objs.size f cdv) (cxOf (L2.CX P w) P w K mg base N x (defScope st) f cdv A outer s H E).xe →
      SV (cxOf (L2.CX P w) P w K mg base N x (defScope st) f cdv A outer s H E) (fun cls d _ H => E cls d H) s1 f1 ∧ SVs (cxOf (L2.CX P w) P w K mg base N x (defScope st) f cdv A outer s H E) (fun cls d _ H => E cls d H) rest f2)
    (e1 : ∀ dS al as_ dc, f1 (sh1 dS (.tup [.obj al, .obj as_, dc])) = .ok .nx (sh2 dS (.tup [.obj al, .obj as_, dc]) (.obj al) (.obj as_) dc)) : OkS P w K mg base x (k + 1) (spS K (shG f2)) := by
  refine okS_mk T Sc Bo (fun vs H Q E h => by obtain ⟨_, _, _, _, _, _, _, _, _, _, rfl, _⟩ := h; exact hp.symm) (fun f cdv A outer s H E vs Q gd hr tk po h => ?_)
  obtain ⟨hb1, hb2⟩ := hbody f cdv A outer s H E gd hr tk po
  obtain ⟨B, a, t, al, as_, vc, dS, dl, ds, dc, rfl, ex, hBt, oS, ol, os, fc, n1, n2, n3, dS', dl', ds', hg, hq⟩ := h
  have L1 := lv_start (N := N) (m := some 0) (a := a) (vs := [.ref a, .ref t]) (ds := [dS, .tup [.obj al, .obj as_, dc]]) (.io oS (.fz (.tup (.inl (.inl hBt)) (.cons (.obj al) (.cons (.obj as_) (.cons fc .nil)))) .nil)) ex (by simp; omega)
  have hE : initE (some 0) N.length [dS, .tup [.obj al, .obj as_, dc]] = sh1 dS (.tup [.obj al, .obj as_, dc]) := by
    rw [hN]; rfl
  rw [hE] at L1
  rw [hst]
  refine PSs.wss (pss_cons ps_ws pss_wss) ?_
  refine hb1 _ _ _ _ _ _ L1 ?_
  rw [e1]
  intro σ1 B2 H2 e12 L2
  have nio : ∀ {c : Addr}, c ≠ a → ¬ (frOf (some 0) a B H).A c := fun h z => h z.2
  have kl : B2 al = none ∧ ∀ o, H al = some o → H2 al = some o := ⟨L2.hid al ol.hid ol.there (nio n1.symm), fun o q => L2.kept al o q (nio n1.symm)⟩
  have ks : B2 as_ = none ∧ ∀ o, H as_ = some o → H2 as_ = some o := ⟨L2.hid as_ os.hid os.there (nio n2.symm), fun o q => L2.kept as_ o q (nio n2.symm)⟩
  obtain ⟨v2, s2, f2'⟩ := L2.fz 2 (.obj al) rfl
  obtain ⟨v3, s3, f3'⟩ := L2.fz 3 (.obj as_) rfl
  cases f2'; cases f3'
  let F : Fr := ⟨B, H, in3 a al as_, [some a, none, some al, some as_]⟩
  have LP := L2.moreP (P := [some a, none, some al, some as_]) (fun i b h => by
    have h : ([some a] : List (Option Addr))[i]? = some (some b) := h
    cases i with
    | zero => exact h
    | succ i => simp at h)
  have LF : Lv K F (sh2 dS (.tup [.obj al, .obj as_, dc]) (.obj al) (.obj as_) dc) σ1 B2 H2 := LP.moreA (A := in3 a al as_) fun c h => .inl h.2
  have owk : ∀ {c d}, Ow K B H c d → B2 c = none → (∀ o, H c = some o → H2 c = some o) → Ow K B2 H2 c d := fun {c d} w h1 h2 => w.keep e12 h1 h2
  have La := LF.slot (i := 1) (t := .un) rfl (fun d z => nomatch z)
  have s0 : σ1[0]? = some (some (.ref a)) := by
    obtain ⟨b, p1, p2⟩ := L2.io 0 dS rfl
    injection (show some (some a) = some (some b) from p1) with z
    injection z with z
    rw [z]; exact p2
  have w0 := L2.ow 0 _ rfl rfl
  have only : ∀ {ρ' : Env} {c : Addr}, OwS K B2 H2 ρ' σ1 c → ∃ i s v S, ρ'[i]? = some s ∧ owned s = true ∧ σ1[i]? = some (some v) ∧ Ft K B2 H2 v s S ∧ c ∈ S := fun ⟨i, s, v, S, e, q, f, m⟩ => ⟨i, s, v, S, e, f.owned, q, f, m⟩
  have nal : ¬ OwS K B2 H2 (((sh2 dS (.tup [.obj al, .obj as_, dc]) (.obj al) (.obj as_) dc).set 1 .un).set 2 .un) σ1 al := fun z => by
    obtain ⟨i, s, v, S, e, o, q, f, m⟩ := only z
    match i, e with
    | 0, e =>
      injection (show some (Slot.io dS) = some s from e) with e; subst e
      rw [s0] at q; injection q with q; injection q with q; subst q
      obtain ⟨_, rfl⟩ := f.one rfl
      exact n1 (List.mem_singleton.mp m).symm
    | 1, e => injection (show some Slot.un = some s from e) with e; subst e; cases o
    | 2, e => injection (show some Slot.un = some s from e) with e; subst e; cases o
    | 3, e => injection (show some (Slot.fz (.obj as_)) = some s from e) with e; subst e; cases o
    | 4, e => injection (show some (Slot.fz dc) = some s from e) with e; subst e; cases o
    | 5, e => injection (show some Slot.un = some s from e) with e; subst e; cases o
    | 6, e => injection (show some Slot.un = some s from e) with e; subst e; cases o
    | i + 7, e => cases (show (none : Option Slot) = some s from e)
  have Lb := La.own (i := 2) (t := .io dl) s2 (S := [al]) ⟨al, rfl, owk ol kl.1 kl.2, rfl⟩ (fun c hc => by rw [List.mem_singleton.mp hc]; exact .inl (.inr (.inl rfl))) (fun c hc => by rw [List.mem_singleton.mp hc]; exact nal) (fun d _ => ⟨al, rfl, rfl⟩)
  have nas : ¬ OwS K B2 H2 ((((sh2 dS (.tup [.obj al, .obj as_, dc]) (.obj al) (.obj as_) dc).set 1 .un).set 2 (.io dl)).set 3 .un) σ1 as_ := fun z => by
    obtain ⟨i, s, v, S, e, o, q, f, m⟩ := only z
    match i, e with
    | 0, e =>
      injection (show some (Slot.io dS) = some s from e) with e; subst e
      rw [s0] at q; injection q with q; injection q with q; subst q
      obtain ⟨_, rfl⟩ := f.one rfl
      exact n2 (List.mem_singleton.mp m).symm
    | 1, e => injection (show some Slot.un = some s from e) with e; subst e; cases o
    | 2, e =>
      injection (show some (Slot.io dl) = some s from e) with e; subst e
      rw [s2] at q; injection q with q; injection q with q; subst q
      obtain ⟨_, rfl⟩ := f.one rfl
      exact n3 (List.mem_singleton.mp m).symm
    | 3, e => injection (show some Slot.un = some s from e) with e; subst e; cases o
    | 4, e => injection (show some (Slot.fz dc) = some s from e) with e; subst e; cases o
    | 5, e => injection (show some Slot.un = some s from e) with e; subst e; cases o
    | 6, e => injection (show some Slot.un = some s from e) with e; subst e; cases o
    | i + 7, e => cases (show (none : Option Slot) = some s from e)
  have Lc := Lb.own (i := 3) (t := .io ds) s3 (S := [as_]) ⟨as_, rfl, owk os ks.1 ks.2, rfl⟩ (fun c hc => by rw [List.mem_singleton.mp hc]; exact .inl (.inr (.inr rfl))) (fun c hc => by rw [List.mem_singleton.mp hc]; exact nas) (fun d _ => ⟨as_, rfl, rfl⟩)
  refine hb2 F (sh0 dS dl ds dc) σ1 B2 H2 _ Lc ?_
  unfold shG at hg
  split at hg
  · rename_i ρ' hf
    rw [hf]
    intro σ' B' H' e' L'
    unfold sh3 at hg
    split at hg
    · rename_i x0 x2 x3 h0 h2 h3
      injection hg with hg; injection hg with g1 hg; injection hg with g2 g3
      subst g1; subst g2; subst g3
      have pin : ∀ {i : Nat} {d : D} {c : Addr}, ρ'[i]? = some (.io d) → F.P[i]? = some (some c) → Ow K B' H' c d := fun {i d c} h p => by
        obtain ⟨b, q1, w, _⟩ := L'.ow i _ h rfl
        obtain ⟨b', p1, q2⟩ := L'.io i d h
        rw [p] at p1; injection p1 with p1; injection p1 with p1; subst p1
        rw [q1] at q2; injection q2 with q2; injection q2 with q2; injection q2 with q2; subst q2
        exact w
      exact hq B' H' ⟨L'.ex, L'.exB, L'.kept, L'.hid, L'.there⟩ (pin h0 rfl) (pin h2 rfl) (pin h3 rfl)
    · cases hg
  · cases hg
abbrev mkH : Mk := .t (.cons (.l .z) (.cons (.l .z) (.cons .z .nil)))
open Classical in
noncomputable def mShd (is ih : Nat) (g : D → D → D → D → Option (D × D × D)) : M Fl := fun ρ => match ρ[is]?, ρ[ih]? with
  | some (.ow dS), some (.dp m (.tup [.lst ls, .lst ss, dc])) => if m = mkH then match g dS (.lst ls) (.lst ss) dc with
    | some (a, .lst b, .lst c) => .ok .nx (((ρ.set ih .un).set is (.ow a)).set ih (.dp mkH (.tup [.lst b, .lst c, dc])))
    | _ => .fail else .fail
  | _, _ => .fail
section
variable {X : Cx} {W : WX} {pos : Pos}
theorem sv_shd {x y z : Str} {is ih k j : Nat} {g : D → D → D → D → Option (D × D × D)} {p py pz cpos : Pos} (G : OkS X.prog X.w X.K X.mg X.base x k (spS X.K g)) (gd : Quiet X.prog X.base X.A) (hr : Room j X.A) (tk : Takes X W) (hne : is ≠ ih := by decide) (hk : k ≤ j := by decide) (hg : Gl X x := by rfl) (hdb : (x == ("__debug__" : Str)) = false := by decide)
    (hN : X.N[is]? = some y := by rfl) (hv : Vis X.env.scope y := by first | exact Or.inl rfl | exact Or.inr (Or.inl rfl) | exact Or.inr (Or.inr rfl)) (hd : (y == ("__debug__" : Str)) = false := by decide)
    (hcd : (y == ("__classdict__" : Str)) = false := by decide)
    (hNz : X.N[ih]? = some z := by rfl) (hvz : Vis X.env.scope z := by first | exact Or.inl rfl | exact Or.inr (Or.inl rfl) | exact Or.inr (Or.inr rfl)) (hdz : (z == ("__debug__" : Str)) = false := by decide)
    (hcz : (z == ("__classdict__" : Str)) = false := by decide)
    (he : starEach (.Name y py :: [.Name z pz]) X.env = (false, eval (.Name y py) X.env) :: starEach [.Name z pz] X.env := by rfl) (he2 : starEach (.Name z pz :: []) X.env = (false, eval (.Name z pz) X.env) :: starEach [] X.env := by rfl) (hpl : (backTo cpos (starEach [.Name z pz] X.env)).any (·.1) = false := by rfl)
    (hs : swapsWith (.Call (.Name x p) [.Name y py, .Name z pz] [] cpos) none pos.line X.env = pure false := by rfl) :
    SV X W (.Expr (.Call (.Name x p) [.Name y py, .Name z pz] [] cpos) pos) (mShd is ih g) := by
  obtain ⟨f, fd, ps, hm, kp, hb, G⟩ := G
  intro F ρ σ B H N L P
  refine PS.ws (ps_expr (pe_callG G gd (hr.mono hk) hg hm kp hb (fun σ => passAt tk σ) (pa_cons (pe_var hN hv hd hcd) (pa_cons (pe_var hNz hvz hdz hcz) pa_nil he2) he) hdb he hpl) hs) ?_
  have P' : PostS X W F B (mShd is ih g ρ) N := P
  unfold mShd at P'
  split at P'
  case h_2 => exact P'.elim
  rename_i dS m ls ss dc e1 e2
  split at P'
  case isFalse => exact P'.elim
  rename_i hm2
  subst hm2
  split at P'
  case h_2 => exact P'.elim
  rename_i a' b' c' hg2
  obtain ⟨v, S, q, ft, gS, noS, L1⟩ := L.take e2 rfl
  obtain ⟨a, sa, wa, ga⟩ := L.ow is _ e1 rfl
  obtain ⟨tr, nd⟩ := ft
  have tr0 := tr
  unfold Tr at tr0
  obtain ⟨t, us, xs, rfl, hxs, hBt, tt⟩ := tr0
  injection hxs with hxs; subst hxs
  simp only [TrT] at tt
  obtain ⟨v1, us, d1, xs, S1, S2, rfl, hx, t1, ⟨v2, us, d2, xs, S3, S4, rfl, hx2, t2, ⟨v3, us, d3, xs, S5, S6, rfl, hx3, t3, ⟨rfl, hx4, rfl⟩, rfl⟩, rfl⟩, rfl⟩ := tt
  injection hx with hd1 hx; subst hx
  injection hx2 with hd2 hx2; subst hx2
  injection hx3 with hd3 hx3; subst hx3
  subst hd1; subst hd2; subst hd3
  unfold Tr at t1 t2 t3
  obtain ⟨al, w1, l1, T1, rfl, hl1, bal, hal, i1, rfl⟩ := t1
  obtain ⟨as_, w2, l2, T2, rfl, hl2, bas, has, i2, rfl⟩ := t2
  injection hl1 with hl1; subst hl1
  injection hl2 with hl2; subst hl2
  obtain ⟨f3, rfl⟩ := t3
  obtain ⟨f1, rfl⟩ := its_z i1
  obtain ⟨f2, rfl⟩ := its_z i2
  have hSm : ∀ c, c ∈ [al] ++ ([as_] ++ ([] ++ [])) ↔ c = al ∨ c = as_ := fun c => by simp
  have hnn : al ≠ as_ := fun z => by subst z; simp at nd
  have e1' : (ρ.set ih .un)[is]? = some (.ow dS) := by rw [List.getElem?_set_ne hne.symm]; exact e1
  obtain ⟨va, Sa, qa, fta, gSa, noSa, L2⟩ := L1.take e1' rfl
  rw [sa] at qa; injection qa with qa; injection qa with qa; subst qa
  obtain ⟨_, rfl⟩ := fta.one rfl
  have aS : ∀ c, c = al ∨ c = as_ → a ≠ c := fun c hc z => noS c ((hSm c).mpr hc) ⟨is, _, _, [a], e1', sa, fta, by simp [z]⟩
  have n2 : ∀ c ∈ [al] ++ ([as_] ++ ([] ++ [])), ¬ OwS X.K B H ((ρ.set ih .un).set is .un) σ c := fun c hc z => noS c hc (by obtain ⟨jj, s, v, U, ne, e1, q1, f1, m1⟩ := z.un; exact ⟨jj, s, v, U, e1, q1, f1, m1⟩)
  refine ⟨.ref a, sa, .ref t, q, B, a, t, al, as_, v3, dS, .lst ls, .lst ss, dc, rfl, L.ex, hBt, wa, ⟨bal, w1, hal, f1⟩, ⟨bas, w2, has, f2⟩, f3, aS al (.inl rfl), aS as_ (.inr rfl), hnn, a', .lst b', .lst c', hg2, fun B' H' cr wa' wl' ws' => ?_⟩
  have hA : ∀ c, in3 a al as_ c → F.A c ∨ F.H0 c = none := fun c h => by
    rcases h with h | h | h
    · rw [h]; exact ga
    · rw [h]; exact gS al ((hSm al).mpr (.inl rfl))
    · rw [h]; exact gS as_ ((hSm as_).mpr (.inr rfl))
  have hO : ∀ c, in3 a al as_ c → ¬ OwS X.K B H ((ρ.set ih .un).set is .un) σ c := fun c h => by
    rcases h with h | h | h
    · rw [h]; exact noSa a (by simp)
    · rw [h]; exact n2 al ((hSm al).mpr (.inl rfl))
    · rw [h]; exact n2 as_ ((hSm as_).mpr (.inr rfl))
  have L3 := L2.callN cr hA hO
  have bk : ∀ c, in3 a al as_ c → ¬ OwS X.K B' H' ((ρ.set ih .un).set is .un) σ c := fun c h z => hO c h (z.back L2 cr.exB (cr.keeps L2 hO))
  have L4 := L3.own (i := is) (t := .ow a') sa (S := [a]) ⟨a, rfl, wa', rfl⟩ (fun c hc => by rw [List.mem_singleton.mp hc]; exact ga) (fun c hc => by rw [List.mem_singleton.mp hc, List.set_set]; exact bk a (.inl rfl)) (fun d z => nomatch z)
  rw [List.set_set] at L4
  have no5 : ∀ c, c = al ∨ c = as_ → ¬ OwS X.K B' H' (((ρ.set ih .un).set is (.ow a')).set ih .un) σ c := fun c hc z => by
    obtain ⟨jj, s, v, U, ne, e, qv, f, m⟩ := z.un
    by_cases hj : jj = is
    · subst hj
      rw [sa] at qv; injection qv with qv; injection qv with qv; subst qv
      rw [List.getElem?_set_self (by rw [List.length_set]; exact (List.getElem?_eq_some_iff.mp e1).1)] at e
      injection e with e; subst e
      obtain ⟨_, rfl⟩ := f.one rfl
      exact aS c hc (List.mem_singleton.mp m).symm
    · rw [List.getElem?_set_ne (Ne.symm hj)] at e
      refine bk c (.inr hc) ⟨jj, s, v, U, ?_, qv, f, m⟩
      rw [List.getElem?_set_ne (Ne.symm hj)]
      exact e
  obtain ⟨bl', u1, hl', g1⟩ := wl'
  obtain ⟨bs', u2, hs', g2⟩ := ws'
  have L5 := L4.own (i := ih) (t := .dp mkH (.tup [.lst b', .lst c', dc])) q (S := [al] ++ ([as_] ++ ([] ++ []))) ⟨by
      unfold Tr
      refine ⟨t, _, _, rfl, rfl, cr.exB _ _ hBt, ?_⟩
      simp only [TrT]
      refine ⟨_, _, _, _, [al], [as_] ++ ([] ++ []), rfl, rfl, ?_, ⟨_, _, _, _, [as_], [] ++ [], rfl, rfl, ?_, ⟨_, _, _, _, [], [], rfl, rfl, ?_, ⟨rfl, rfl, rfl⟩, rfl⟩, rfl⟩, rfl⟩
      · unfold Tr; exact ⟨al, u1, b', [], rfl, rfl, bl', hl', z_its g1, rfl⟩
      · unfold Tr; exact ⟨as_, u2, c', [], rfl, rfl, bs', hs', z_its g2, rfl⟩
      · unfold Tr; exact ⟨f3.mono cr.exB, rfl⟩, nd⟩ gS (fun c hc => no5 c ((hSm c).mp hc)) (fun d z => nomatch z)
  exact P' σ B' H' cr.exB L5
end
end Dt
namespace Dt
open PySem PySem.Spec PyProof.Rows L2
def slOk : Slot → Bool
  | .un => true
  | .fz d => d.noL
  | .ow d => iNoL d
  | .io d => iNoL d
  | .dp m d => lfN m d
def cutOk (ρ : Env) : Bool := ρ.all slOk
section
variable {K : PySem.W.Frag} {F : Fr} {ρ ρa : Env} {σ σ2 : St} {B H B2 H2 B' H' : Hp}
theorem cutOk_at (h : cutOk ρ = true) {i : Nat} {s : Slot} (e : ρ[i]? = some s) : slOk s = true := List.all_eq_true.mp h s (List.mem_of_getElem? e)
theorem Ft.cutA {v : V} {s : Slot} {S : List Addr} (f : Ft K B H v s S) (h : slOk s = true) : Ft K (cutA B) H v s S := by
  cases s with
  | un => exact f.elim
  | fz _ => exact f.elim
  | ow d => obtain ⟨b, e1, w, e2⟩ := f; exact ⟨b, e1, w.cutA h, e2⟩
  | io d => obtain ⟨b, e1, w, e2⟩ := f; exact ⟨b, e1, w.cutA h, e2⟩
  | dp m d => exact ⟨f.1.cutA h, f.2⟩
theorem Lv.cutIn (L : Lv K F ρ σ B H) (h : cutOk ρ = true) : Lv K ⟨cutA B, H, OwS K B H ρ σ, F.P⟩ ρ σ (cutA B) H := by
  have back : ∀ {i : Nat} {s : Slot} {v : V} {S : List Addr}, ρ[i]? = some s → σ[i]? = some (some v) → Ft K (cutA B) H v s S → Ft K B H v s S := fun {i s v S} e q f => by
    obtain ⟨v1, S1, q1, f1, _⟩ := L.own0 i s e f.owned
    rw [q] at q1; injection q1 with q1; injection q1 with q1; subst q1
    rw [f.det (f1.cutA (cutOk_at h e))]; exact f1
  refine ⟨(cutA_ex B).trans L.ex, fun _ _ h _ => h, fun _ h => h, Ex.refl _, fun _ h _ _ => h, fun i d e => ?_, fun i s e w => ?_, L.io, fun i j s t v w S T a e1 e2 q1 q2 f1 f2 m1 m2 => ?_, L.len⟩
  · obtain ⟨v, q, f⟩ := L.fz i d e
    exact ⟨v, q, f.cutA (cutOk_at h e)⟩
  · obtain ⟨v, S, q, f, g⟩ := L.own0 i s e w
    exact ⟨v, S, q, f.cutA (cutOk_at h e), fun a m => .inl ⟨i, s, v, S, e, q, f, m⟩⟩
  · exact L.ne0 i j s t v w S T a e1 e2 q1 q2 (back e1 q1 f1) (back e2 q2 f2) m1 m2
def jn (B C : Hp) : Hp := fun x => match B x with
  | some o => some o
  | none => C x
theorem jn_l {C : Hp} {a : Addr} {o : HO} (h : B a = some o) : jn B C a = some o := by unfold jn; rw [h]
theorem jn_r {C : Hp} {a : Addr} (h : B a = none) : jn B C a = C a := by unfold jn; rw [h]
theorem Lv.cutOut (L : Lv K F ρ σ B H) (L2 : Lv K ⟨cutA B, H, OwS K B H ρ σ, F.P⟩ ρa σ2 B2 H2) (cr : Cr (lsB B2) (cutA B2) H2 B' H') (h : cutOk ρa = true) : Lv K F ρa σ2 (jn B (cutA B2)) H' ∧ Ex B (jn B (cutA B2)) := by
  have noB : ∀ {b : Addr} {o : HO}, B b = some o → ¬ OwS K B H ρ σ b := fun hb z => by rw [(L.hidOw z).1] at hb; cases hb
  have kp : ∀ {b : Addr} {o : HO}, B b = some o → H2 b = some o := fun {b o} hb => L2.kept b o (L.ex b o hb) (noB hb)
  -- lists of the new frozen part are none of the old one's
  have f1 : ∀ b, lsB B2 b → B b = none := fun b ⟨ys, hb⟩ => by
    cases q : B b with
    | none => rfl
    | some o =>
      exfalso
      have hH := kp q
      rw [L2.ex b _ hb] at hH
      injection hH with hH; subst hH
      have n := L2.hid b (cutA_lst q) (.of (L.ex b _ q) fun _ z => nomatch z) (noB q)
      rw [hb] at n; cases n
  have f2 : ∀ b, lsB B2 b → F.A b ∨ F.H0 b = none := fun b hb => by
    cases q : H b with
    | none => exact .inr (L.free q)
    | some o =>
      by_cases w : OwS K B H ρ σ b
      · exact L.ofOw w
      · exfalso
        obtain ⟨ys, hy⟩ := hb
        have hH := L2.kept b o q w
        rw [L2.ex b _ hy] at hH
        injection hH with hH; subst hH
        have n := L2.hid b (cutA_n (f1 b ⟨ys, hy⟩)) (.of q fun _ z => nomatch z) w
        rw [hy] at n; cases n
  have f3 : Ex B H' := fun b o hb => cr.kept b o (kp hb) fun z => by rw [f1 b z] at hb; cases hb
  have f4 : Ex (cutA B2) H' := cr.exB.trans cr.ex
  have e1 : Ex B (jn B (cutA B2)) := fun a o q => jn_l q
  have e2 : Ex (cutA B2) (jn B (cutA B2)) := fun a o q => by
    cases w : B a with
    | none => rw [jn_r w]; exact q
    | some o' =>
      rw [jn_l w]
      have h1 := kp w
      rw [L2.ex a _ (cutA_ex B2 a o q)] at h1
      exact h1.symm
  have e3 : Ex (jn B (cutA B2)) H' := fun a o q => by
    cases w : B a with
    | none => rw [jn_r w] at q; exact f4 a o q
    | some o' => rw [jn_l w] at q; injection q with q; subst q; exact f3 a _ w
  have own : ∀ {i : Nat} {s : Slot}, ρa[i]? = some s → owned s = true → ∃ v S, σ2[i]? = some (some v) ∧ Ft K B2 H2 v s S ∧ Ft K (jn B (cutA B2)) H' v s S ∧ ∀ a ∈ S, F.A a ∨ F.H0 a = none := fun {i s} e w => by
    obtain ⟨v, S, q, f, g⟩ := L2.own0 i s e w
    refine ⟨v, S, q, f, (f.cutA (cutOk_at h e)).keep e2 (fun a ha => ?_) (fun a ha o q => ?_), fun a ha => ?_⟩
    · have hn := (f.hid a ha).1
      have bn : B a = none := by
        rcases g a ha with z | z
        · exact (L.hidOw z).1
        · cases q : B a with
          | none => rfl
          | some o => have := L.ex a o q; rw [show H a = none from z] at this; cases this
      rw [jn_r bn]; exact cutA_n hn
    · exact cr.kept a o q fun ⟨ys, z⟩ => by rw [(f.hid a ha).1] at z; cases z
    · rcases g a ha with z | z
      · exact L.ofOw z
      · exact .inr (L.free z)
  have back : ∀ {i : Nat} {s : Slot} {v : V} {S : List Addr}, ρa[i]? = some s → σ2[i]? = some (some v) → Ft K (jn B (cutA B2)) H' v s S → Ft K B2 H2 v s S := fun {i s v S} e q f => by
    obtain ⟨v1, S1, q1, f1, f1', _⟩ := own e f.owned
    rw [q] at q1; injection q1 with q1; injection q1 with q1; subst q1
    rw [f.det f1']; exact f1
  refine ⟨⟨e3, fun a o q n => ?_, fun a q => cr.there a (L2.there a (L.there a q)), L.exB.trans e1, fun a q c n => ?_, fun i d e => ?_, fun i s e w => ?_, L2.io, fun i j s t v w S T a e1 e2 q1 q2 f1 f2 m1 m2 => ?_, L2.len⟩, e1⟩
  · have now : ¬ OwS K B H ρ σ a := fun w => by
      rcases L.ofOw w with z | z
      · exact n z
      · rw [z] at q; cases q
    refine cr.kept a o (L2.kept a o (L.kept a o q n) now) fun z => ?_
    rcases f2 a z with z | z
    · exact n z
    · rw [z] at q; cases q
  · have bn := L.hid a q c n
    have now : ¬ OwS K B H ρ σ a := fun w => by
      rcases L.ofOw w with z | z
      · exact n z
      · exact c.ne z
    rw [jn_r bn]
    exact cutA_n (L2.hid a (cutA_n bn) (c.to fun o q => L.kept a o q n) now)
  · obtain ⟨v, q, f⟩ := L2.fz i d e
    exact ⟨v, q, (f.cutA (cutOk_at h e)).mono e2⟩
  · obtain ⟨v, S, q, _, f, g⟩ := own e w
    exact ⟨v, S, q, f, g⟩
  · exact L2.ne0 i j s t v w S T a e1 e2 q1 q2 (back e1 q1 f1) (back e2 q2 f2) m1 m2
end
def SVp (X : Cx) (W : WX) (pre : List Stmt) (f : M Fl) : Prop := ∀ (tail : List Stmt) (F : Fr) (ρ : Env) (σ : St) (B H : Hp) (N : Ends), Lv X.K F ρ σ B H → PostS X W F B (f ρ) { N with nx := fun σ' H' => wss X tail N σ' H' } → wss X (pre ++ tail) N σ H
section
variable {X : Cx} {W : WX} {s : Stmt} {pre rest : List Stmt} {f g : M Fl}
theorem svp_nil : SVp X W [] mNx := fun tail F ρ σ B H N L P => P σ B H (Ex.refl _) L
theorem svp_cons (h1 : SV X W s f) (h2 : SVp X W pre g) : SVp X W (s :: pre) (mSeq f g) := by
  intro tail F ρ σ B H N L P
  show wss X (s :: (pre ++ tail)) N σ H
  refine PSs.wss (pss_cons ps_ws pss_wss) ?_
  refine h1 F ρ σ B H _ L ?_
  have P' : PostS X W F B (M.bind f _ ρ) _ := P
  unfold M.bind at P'
  cases q : f ρ with
  | ok fl ρ1 =>
    rw [q] at P'
    cases fl with
    | nx => exact fun σ' B' H' e' L' => h2 tail F ρ1 σ' B' H' N L' (PostS.weak P' e')
    | bk => exact P'
    | ct => exact P'
    | rt d o => exact P'
  | rz c ρ1 => rw [q] at P'; exact P'
  | fail => rw [q] at P'; exact P'
theorem svp_frz {i : Nat} (h : SVp X W pre f) : SVp X W pre (mSeq (mFrz i) f) := by
  intro tail F ρ σ B H N L P
  have P' : PostS X W F B (M.bind (mFrz i) _ ρ) _ := P
  unfold M.bind mFrz at P'
  cases q : ρ[i]? with
  | none => rw [q] at P'; exact h tail F ρ σ B H N L P'
  | some s =>
    cases s with
    | ow d =>
      rw [q] at P'
      obtain ⟨B', v, e1, _, _, L'⟩ := L.frz q
      exact h tail F _ σ B' H N L' (PostS.weak P' e1)
    | dp m d =>
      rw [q] at P'
      obtain ⟨B', v, e1, _, _, L'⟩ := L.frz0 q rfl
      exact h tail F _ σ B' H N L' (PostS.weak P' e1)
    | un => rw [q] at P'; exact h tail F ρ σ B H N L P'
    | fz d => rw [q] at P'; exact h tail F ρ σ B H N L P'
    | io d => rw [q] at P'; exact h tail F ρ σ B H N L P'
end
def FreP (i0 ih : Nat) (f : M Fl) (ρ ρ2 : Env) : Prop := cutOk (ρ.set i0 .un) = true ∧ cutOk ρ2 = true ∧ ρ2[i0]? = some .un ∧ ∀ a, ∃ d ρa, f (ρ.set i0 (.fz (.obj a))) = .ok .nx ρa ∧ ρa[i0]? = some (.fz (.obj a)) ∧ ρa[ih]? = some (.fz d) ∧ chOk d = true ∧ (ρa.set ih .un).set i0 .un = ρ2
open Classical in
noncomputable def mFree (i0 ih : Nat) (f g : M Fl) : M Fl := fun ρ => match ρ[i0]? with
  | some (.fz (.scr ns)) => if h : ∃ ρ2, FreP i0 ih f ρ ρ2 then g ((choose h).set i0 (.fz (.scr ns))) else .fail
  | _ => .fail
theorem FreP.uniq {i0 ih : Nat} {f : M Fl} {ρ ρ2 ρ3 : Env} (h : FreP i0 ih f ρ ρ2) (h' : FreP i0 ih f ρ ρ3) : ρ2 = ρ3 := by
  obtain ⟨d, ρa, e1, _, _, _, e2⟩ := h.2.2.2 0
  obtain ⟨d', ρa', e1', _, _, _, e2'⟩ := h'.2.2.2 0
  rw [e1] at e1'
  injection e1' with _ e1'
  rw [← e2, ← e2', e1']
theorem mFree_ok {i0 ih : Nat} {f g : M Fl} {ρ ρ2 : Env} {ns : List Int} (e : ρ[i0]? = some (.fz (.scr ns))) (h : FreP i0 ih f ρ ρ2) : mFree i0 ih f g ρ = g (ρ2.set i0 (.fz (.scr ns))) := by
  unfold mFree
  rw [e]
  have hh : ∃ ρ2, FreP i0 ih f ρ ρ2 := ⟨ρ2, h⟩
  simp only [dif_pos hh]
  rw [(Classical.choose_spec hh).uniq h]
section
variable {X : Cx} {W : WX} {pre rest : List Stmt} {f g : M Fl}
theorem svs_free {x y : Str} {i0 ih k j : Nat} {p py cpos pos : Pos} (G : OkS X.prog X.w X.K X.mg X.base x k (spC X.K)) (gd : Quiet X.prog X.base X.A) (hr : Room j X.A) (tk : Takes X W) (hpre : SVp X W pre f) (hrest : SVs X W rest g) (hk : k ≤ j := by decide) (hg : Gl X x := by rfl) (hdb : (x == ("__debug__" : Str)) = false := by decide)
    (hN : X.N[ih]? = some y := by rfl) (hv : Vis X.env.scope y := by first | exact Or.inl rfl | exact Or.inr (Or.inl rfl) | exact Or.inr (Or.inr rfl)) (hd : (y == ("__debug__" : Str)) = false := by decide)
    (hcd : (y == ("__classdict__" : Str)) = false := by decide)
    (he : starEach (.Name y py :: []) X.env = (false, eval (.Name y py) X.env) :: starEach [] X.env := by rfl) (hpl : (backTo cpos (starEach [] X.env)).any (·.1) = false := by rfl)
    (hs : swapsWith (.Call (.Name x p) [.Name y py] [] cpos) none pos.line X.env = pure false := by rfl) :
    SVs X W (pre ++ (.Expr (.Call (.Name x p) [.Name y py] [] cpos) pos :: rest)) (mFree i0 ih f g) := by
  obtain ⟨fa, fd, ps, hm, kp, hb, G⟩ := G
  intro F ρ σ B H N L P
  have P' : PostS X W F B (mFree i0 ih f g ρ) N := P
  unfold mFree at P'
  split at P'
  case h_2 => exact P'.elim
  rename_i ns e0
  split at P'
  case isFalse => exact P'.elim
  rename_i hh
  have hF := Classical.choose_spec hh
  generalize Classical.choose hh = ρ2 at P' hF
  obtain ⟨ok1, ok2, h0, hall⟩ := hF
  obtain ⟨v0, s0, f0⟩ := L.fz i0 _ e0
  have hv0 : ∃ a, v0 = .ref a := by cases f0 with | scr _ => exact ⟨_, rfl⟩
  obtain ⟨a, rfl⟩ := hv0
  obtain ⟨d, ρa, hf, ha0, hah, hch, h2⟩ := hall a
  have li : i0 < ρ.length := (List.getElem?_eq_some_iff.mp e0).1
  have L0 := L.slot (i := i0) (t := .fz (.obj a)) rfl (fun d' z _ => by injection z with z; subst z; exact ⟨_, s0, .obj a⟩)
  have okρ : cutOk (ρ.set i0 (.fz (.obj a))) = true := by
    refine List.all_eq_true.mpr fun s hs => ?_
    obtain ⟨jj, hj⟩ := List.mem_iff_getElem?.mp hs
    rcases get_set hj with ⟨rfl, z, _⟩ | ⟨ne, hj⟩
    · rw [z]; rfl
    · exact cutOk_at ok1 (i := jj) (by rw [List.getElem?_set_ne (Ne.symm ne)]; exact hj)
  have LI := L0.cutIn okρ
  refine hpre _ _ (ρ.set i0 (.fz (.obj a))) σ (cutA B) H N LI ?_
  rw [hf]
  intro σ2 B2 H2 e2 L2
  refine PSs.wss (pss_cons (ps_expr (pe_callG G gd (hr.mono hk) hg hm kp hb (fun σ => passAt tk σ) (pa_cons (pe_var hN hv hd hcd) pa_nil he) hdb he hpl) hs) pss_wss) ?_
  obtain ⟨vh, sh, fh⟩ := L2.fz ih _ hah
  obtain ⟨va, sa, fa'⟩ := L2.fz i0 _ ha0
  cases fa'
  refine ⟨vh, sh, B2, vh, d, rfl, L2.ex, fh, hch, fun B' H' cr => ?_⟩
  have L3 := (L2.slot (i := ih) (t := .un) rfl (fun d z => nomatch z)).slot (i := i0) (t := .un) rfl (fun d z => nomatch z)
  rw [h2] at L3
  obtain ⟨L4, e4⟩ := L0.cutOut L3 cr ok2
  have L5 := L4.slot (i := i0) (t := .fz (.scr ns)) rfl (fun d' z _ => by injection z with z; subst z; exact ⟨_, sa, f0.mono e4⟩)
  exact hrest F _ σ2 _ H' N L5 (PostS.weak P' e4)
end
end Dt
namespace Dt
open PySem PySem.Spec PyProof.Rows L2
def in2 (a b : Addr) (x : Addr) : Prop := x = a ∨ x = b
def rm0 (dS dl ds dc : D) : Env := [.io dS, .fz dl, .io ds, .fz dc, .un, .un, .un, .un, .un, .un, .un]
def rm1 (dS dl ds dc : D) : Env := [.io dS, .fz dl, .fz ds, .fz dc, .un, .un, .un, .un, .un, .un, .un]
def RmR (f : M Fl) (dS dl ds dc dS' d : D) : Prop := ∃ ρ' : List Slot, f (rm0 dS dl ds dc) = .ok (.rt d .tt) ρ' ∧ ρ'[0]? = some (Slot.io dS') ∧ ρ'[2]? = some (Slot.io ds)
theorem RmR.uniq {f : M Fl} {dS dl ds dc a d b e : D} (h : RmR f dS dl ds dc a d) (h' : RmR f dS dl ds dc b e) : a = b ∧ d = e := by
  obtain ⟨ρ, q, q0, _⟩ := h
  obtain ⟨ρ', q', q0', _⟩ := h'
  rw [q] at q'
  injection q' with e1 e2
  injection e1 with e1
  subst e2
  rw [q0] at q0'
  injection q0' with q0'; injection q0' with q0'
  exact ⟨q0', e1⟩
def spR (K : PySem.W.Frag) (R : D → D → D → D → D → D → Prop) : Sp := fun vs H Q _ => ∃ (B : Hp) (a as_ : Addr) (v1 v3 : V) (dS dl ds dc dS' d : D), vs = [.ref a, v1, .ref as_, v3] ∧ Ex B H ∧ Ow K B H a dS ∧ Fz K B v1 dl ∧ Ow K B H as_ ds ∧ Fz K B v3 dc ∧ a ≠ as_ ∧ R dS dl ds dc dS' d ∧
  ∀ B' H' p, Cr (in2 a as_) B H B' H' → Ow K B' H' a dS' → Ow K B' H' as_ ds → Ow K B' H' p d → H p = none → Q (.ref p) H'
theorem okR_mk {P : Program} {w : World} {K : PySem.W.Frag} {mg : Str → Option Value} {base : Heap} {x : Str} {st : Stmt} {N ps : List Str} {k : Nat} (T : FnIn K mg x st) (Sc : FnScope N ps (defScope st)) (Bo : BindOk x st ps) (hp : ps.length = 4) (hN : N.length = 11) {f2 : M Fl}
    (hbody : ∀ (f : Addr) (cdv : Value) (A : Around) (outer : List PySem.Env) (s : Shared) (H : Hp) (E : XK), Quiet P base (A.deeper (envOfC x (defScope st) s.heap.objs.size f cdv)) → Room k (A.deeper (envOfC x (defScope st) s.heap.objs.size f cdv)) →
      Takes (cxOf (L2.CX P w) P w K mg base N x (defScope st) f cdv A outer s H E) (fun cls d _ H => E cls d H) →
      PassesOwn (model P w) (A.deeper (envOfC x (defScope st) s.heap.objs.size f cdv)) (envOfC x (defScope st) s.heap.objs.size f cdv) (cxOf (L2.CX P w) P w K mg base N x (defScope st) f cdv A outer s H E).xe →
      SVs (cxOf (L2.CX P w) P w K mg base N x (defScope st) f cdv A outer s H E) (fun cls d _ H => E cls d H) (defBody st) f2) : OkS P w K mg base x (k + 1) (spR K (RmR f2)) := by
  refine okS_mk T Sc Bo (fun vs H Q E h => by obtain ⟨_, _, _, _, _, _, _, _, _, _, _, rfl, _⟩ := h; exact hp.symm) (fun f cdv A outer s H E vs Q gd hr tk po h => ?_)
  have hb := hbody f cdv A outer s H E gd hr tk po
  obtain ⟨B, a, as_, v1, v3, dS, dl, ds, dc, dS', d, rfl, ex, oS, fl, os, fc, n1, hR, hq⟩ := h
  have L1 := lv_start (N := N) (m := some 0) (a := a) (vs := [.ref a, v1, .ref as_, v3]) (ds := [dS, dl, .obj as_, dc]) (.io oS (.fz fl (.fz (.obj as_) (.fz fc .nil)))) ex (by simp; omega)
  have hE : initE (some 0) N.length [dS, dl, .obj as_, dc] = rm1 dS dl (.obj as_) dc := by
    rw [hN]; rfl
  rw [hE] at L1
  let F : Fr := ⟨B, H, in2 a as_, [some a, none, some as_]⟩
  have LP := L1.moreP (P := [some a, none, some as_]) (fun i b h => by
    have h : ([some a] : List (Option Addr))[i]? = some (some b) := h
    cases i with
    | zero => exact h
    | succ i => simp at h)
  have LF : Lv K F (rm1 dS dl (.obj as_) dc) (L2.start N [.ref a, v1, .ref as_, v3]) B H := LP.moreA (A := in2 a as_) fun c h => .inl h.2
  have s0 : (L2.start N [.ref a, v1, .ref as_, v3])[0]? = some (some (.ref a)) := rfl
  have s2 : (L2.start N [.ref a, v1, .ref as_, v3])[2]? = some (some (.ref as_)) := rfl
  have nas : ¬ OwS K B H ((rm1 dS dl (.obj as_) dc).set 2 .un) (L2.start N [.ref a, v1, .ref as_, v3]) as_ := fun z => by
    obtain ⟨i, s, v, S, e, q, f, m⟩ := z
    have o := f.owned
    match i, e with
    | 0, e =>
      injection (show some (Slot.io dS) = some s from e) with e; subst e
      rw [s0] at q; injection q with q; injection q with q; subst q
      obtain ⟨_, rfl⟩ := f.one rfl
      exact n1 (List.mem_singleton.mp m).symm
    | 1, e => injection (show some (Slot.fz dl) = some s from e) with e; subst e; cases o
    | 2, e => injection (show some Slot.un = some s from e) with e; subst e; cases o
    | 3, e => injection (show some (Slot.fz dc) = some s from e) with e; subst e; cases o
    | 4, e => injection (show some Slot.un = some s from e) with e; subst e; cases o
    | 5, e => injection (show some Slot.un = some s from e) with e; subst e; cases o
    | 6, e => injection (show some Slot.un = some s from e) with e; subst e; cases o
    | 7, e => injection (show some Slot.un = some s from e) with e; subst e; cases o
    | 8, e => injection (show some Slot.un = some s from e) with e; subst e; cases o
    | 9, e => injection (show some Slot.un = some s from e) with e; subst e; cases o
    | 10, e => injection (show some Slot.un = some s from e) with e; subst e; cases o
    | i + 11, e => cases (show (none : Option Slot) = some s from e)
  have Lb := LF.own (i := 2) (t := .io ds) s2 (S := [as_]) ⟨as_, rfl, os, rfl⟩ (fun c hc => by rw [List.mem_singleton.mp hc]; exact .inl (.inr rfl)) (fun c hc => by rw [List.mem_singleton.mp hc]; exact nas) (fun d _ => ⟨as_, rfl, rfl⟩)
  refine hb F (rm0 dS dl ds dc) _ B H _ Lb ?_
  obtain ⟨ρ', hf, h0, h2⟩ := hR
  rw [hf]
  intro v σ' B' H' e' L' vo
  obtain ⟨p, rfl, w, g, no⟩ := vo
  have pin : ∀ {i : Nat} {d : D} {c : Addr}, ρ'[i]? = some (.io d) → F.P[i]? = some (some c) → Ow K B' H' c d ∧ OwS K B' H' ρ' σ' c := fun {i d c} h pp => by
    obtain ⟨b, q1, w, _⟩ := L'.ow i _ h rfl
    obtain ⟨b', p1, q2⟩ := L'.io i d h
    rw [pp] at p1; injection p1 with p1; injection p1 with p1; subst p1
    rw [q1] at q2; injection q2 with q2; injection q2 with q2; injection q2 with q2; subst q2
    exact ⟨w, .mk h rfl q1 w⟩
  have pa := pin h0 rfl
  have ps' := pin h2 rfl
  refine hq B' H' p ⟨L'.ex, L'.exB, L'.kept, L'.hid, L'.there⟩ pa.1 ps'.1 w ?_
  rcases g with g | g
  · rcases g with g | g
    · rw [g] at no; exact absurd pa.2 no
    · rw [g] at no; exact absurd ps'.2 no
  · exact g
open Classical in
noncomputable def mRom (i0 i1 i2 i3 : Nat) (R : D → D → D → D → D → D → Prop) : M (D × Ob) := fun ρ => match ρ[i0]?, ρ[i1]?, ρ[i2]?, ρ[i3]? with
  | some (.io dS), some (.fz dl), some (.ow ds), some (.fz dc) => if h : ∃ r : D × D, R dS dl ds dc r.1 r.2 then .ok ((choose h).2, .tt) (ρ.set i0 (.io (choose h).1)) else .fail
  | _, _, _, _ => .fail
theorem mRom_ok {i0 i1 i2 i3 : Nat} {f : M Fl} {ρ ρ2 : Env} {dS dl ds dc dS' d : D} (h0 : ρ[i0]? = some (.io dS)) (h1 : ρ[i1]? = some (.fz dl)) (h2 : ρ[i2]? = some (.ow ds)) (h3 : ρ[i3]? = some (.fz dc)) (hR : RmR f dS dl ds dc dS' d) (he : ρ.set i0 (.io dS') = ρ2) : mRom i0 i1 i2 i3 (RmR f) ρ = .ok (d, .tt) ρ2 := by
  unfold mRom
  rw [h0, h1, h2, h3]
  have hh : ∃ r : D × D, RmR f dS dl ds dc r.1 r.2 := ⟨(dS', d), hR⟩
  simp only [dif_pos hh]
  obtain ⟨e1, e2⟩ := (Classical.choose_spec hh).uniq hR
  rw [e1, e2, he]
section
variable {X : Cx} {W : WX} {pos : Pos}
theorem eo_rom {x y0 y1 y2 y3 : Str} {i0 i1 i2 i3 k j : Nat} {R : D → D → D → D → D → D → Prop} {p q0 q1 q2 q3 : Pos} (G : OkS X.prog X.w X.K X.mg X.base x k (spR X.K R)) (gd : Quiet X.prog X.base X.A) (hr : Room j X.A) (tk : Takes X W) (hne : i0 ≠ i2 := by decide) (hk : k ≤ j := by decide) (hg : Gl X x := by rfl) (hdb : (x == ("__debug__" : Str)) = false := by decide)
    (hN0 : X.N[i0]? = some y0 := by rfl) (hv0 : Vis X.env.scope y0 := by first | exact Or.inl rfl | exact Or.inr (Or.inl rfl) | exact Or.inr (Or.inr rfl)) (hd0 : (y0 == ("__debug__" : Str)) = false := by decide) (hc0 : (y0 == ("__classdict__" : Str)) = false := by decide)
    (hN1 : X.N[i1]? = some y1 := by rfl) (hv1 : Vis X.env.scope y1 := by first | exact Or.inl rfl | exact Or.inr (Or.inl rfl) | exact Or.inr (Or.inr rfl)) (hd1 : (y1 == ("__debug__" : Str)) = false := by decide) (hc1 : (y1 == ("__classdict__" : Str)) = false := by decide)
    (hN2 : X.N[i2]? = some y2 := by rfl) (hv2 : Vis X.env.scope y2 := by first | exact Or.inl rfl | exact Or.inr (Or.inl rfl) | exact Or.inr (Or.inr rfl)) (hd2 : (y2 == ("__debug__" : Str)) = false := by decide) (hc2 : (y2 == ("__classdict__" : Str)) = false := by decide)
    (hN3 : X.N[i3]? = some y3 := by rfl) (hv3 : Vis X.env.scope y3 := by first | exact Or.inl rfl | exact Or.inr (Or.inl rfl) | exact Or.inr (Or.inr rfl)) (hd3 : (y3 == ("__debug__" : Str)) = false := by decide) (hc3 : (y3 == ("__classdict__" : Str)) = false := by decide)
    (he0 : starEach (.Name y0 q0 :: [.Name y1 q1, .Name y2 q2, .Name y3 q3]) X.env = (false, eval (.Name y0 q0) X.env) :: starEach [.Name y1 q1, .Name y2 q2, .Name y3 q3] X.env := by rfl) (he1 : starEach (.Name y1 q1 :: [.Name y2 q2, .Name y3 q3]) X.env = (false, eval (.Name y1 q1) X.env) :: starEach [.Name y2 q2, .Name y3 q3] X.env := by rfl)
    (he2 : starEach (.Name y2 q2 :: [.Name y3 q3]) X.env = (false, eval (.Name y2 q2) X.env) :: starEach [.Name y3 q3] X.env := by rfl) (he3 : starEach (.Name y3 q3 :: []) X.env = (false, eval (.Name y3 q3) X.env) :: starEach [] X.env := by rfl)
    (hpl : (backTo pos (starEach [.Name y1 q1, .Name y2 q2, .Name y3 q3] X.env)).any (·.1) = false := by rfl) :
    EO X W (.Call (.Name x p) [.Name y0 q0, .Name y1 q1, .Name y2 q2, .Name y3 q3] [] pos) (mRom i0 i1 i2 i3 R) := by
  obtain ⟨f, fd, ps, hm, kp, hb, G⟩ := G
  intro F ρ σ B H Q L P
  refine PE.we (pe_callG G gd (hr.mono hk) hg hm kp hb (fun σ => passAt tk σ) (pa_cons (pe_var hN0 hv0 hd0 hc0) (pa_cons (pe_var hN1 hv1 hd1 hc1) (pa_cons (pe_var hN2 hv2 hd2 hc2) (pa_cons (pe_var hN3 hv3 hd3 hc3) pa_nil he3) he2) he1) he0) hdb he0 hpl) ?_
  unfold mRom at P
  split at P
  case h_2 => exact P.elim
  rename_i dS dl ds dc e0 e1 e2 e3
  split at P
  case isFalse => exact P.elim
  rename_i hh
  have hR := Classical.choose_spec hh
  generalize Classical.choose hh = r at P hR
  obtain ⟨dS', d⟩ := r
  obtain ⟨a, sa, wa, ga⟩ := L.ow i0 _ e0 rfl
  obtain ⟨as_, ss, ws', gs⟩ := L.ow i2 _ e2 rfl
  obtain ⟨v1, s1, f1⟩ := L.fz i1 _ e1
  obtain ⟨v3, s3, f3⟩ := L.fz i3 _ e3
  have nn : a ≠ as_ := fun z => hne (L.ne0 i0 i2 _ _ _ _ [a] [as_] a e0 e2 sa ss ⟨a, rfl, wa, rfl⟩ ⟨as_, rfl, ws', rfl⟩ (by simp) (by simp [z]))
  obtain ⟨va, Sa, qa, fta, gSa, noSa, L1⟩ := L.take e0 rfl
  rw [sa] at qa; injection qa with qa; injection qa with qa; subst qa
  obtain ⟨_, rfl⟩ := fta.one rfl
  have e2' : (ρ.set i0 .un)[i2]? = some (.ow ds) := by rw [List.getElem?_set_ne hne]; exact e2
  obtain ⟨vs, Ss, qs, fts, gSs, noSs, L2⟩ := L1.take e2' rfl
  rw [ss] at qs; injection qs with qs; injection qs with qs; subst qs
  obtain ⟨_, rfl⟩ := fts.one rfl
  refine ⟨.ref a, sa, v1, s1, .ref as_, ss, v3, s3, B, a, as_, v1, v3, dS, dl, ds, dc, dS', d, rfl, L.ex, wa, f1, ws', f3, nn, hR, fun B' H' pn cr wa2 ws2 wp hpn => ?_⟩
  have hA : ∀ c, in2 a as_ c → F.A c ∨ F.H0 c = none := fun c h => by
    rcases h with h | h
    · rw [h]; exact ga
    · rw [h]; exact gs
  have hO : ∀ c, in2 a as_ c → ¬ OwS X.K B H ((ρ.set i0 .un).set i2 .un) σ c := fun c h => by
    rcases h with h | h
    · rw [h]; exact fun z => noSa a (by simp) (by obtain ⟨jj, s, v, U, ne, e1, q1, f1, m1⟩ := z.un; exact ⟨jj, s, v, U, e1, q1, f1, m1⟩)
    · rw [h]; exact noSs as_ (by simp)
  have L3 := L2.callN cr hA hO
  have bk : ∀ c, in2 a as_ c → ¬ OwS X.K B' H' ((ρ.set i0 .un).set i2 .un) σ c := fun c h z => hO c h (z.back L2 cr.exB (cr.keeps L2 hO))
  -- the stands again
  have L4 := L3.own (i := i2) (t := .ow ds) ss (S := [as_]) ⟨as_, rfl, ws2, rfl⟩ (fun c hc => by rw [List.mem_singleton.mp hc]; exact gs) (fun c hc => by rw [List.mem_singleton.mp hc, List.set_set]; exact bk as_ (.inr rfl)) (fun d z => nomatch z)
  rw [List.set_set] at L4
  have no5 : ¬ OwS X.K B' H' (((ρ.set i0 .un).set i2 (.ow ds)).set i0 .un) σ a := fun z => by
    obtain ⟨jj, s, v, U, ne, e, qv, f, m⟩ := z.un
    by_cases hj : jj = i2
    · subst hj
      rw [ss] at qv; injection qv with qv; injection qv with qv; subst qv
      rw [List.getElem?_set_self (by rw [List.length_set]; exact (List.getElem?_eq_some_iff.mp e2).1)] at e
      injection e with e; subst e
      obtain ⟨_, rfl⟩ := f.one rfl
      exact nn (List.mem_singleton.mp m)
    · rw [List.getElem?_set_ne (Ne.symm hj)] at e
      refine bk a (.inl rfl) ⟨jj, s, v, U, ?_, qv, f, m⟩
      rw [List.getElem?_set_ne (Ne.symm hj)]
      exact e
  have hio : ∃ c, V.ref a = V.ref c ∧ F.P[i0]? = some (some c) := by
    obtain ⟨c, h1, h2⟩ := L.io i0 _ e0
    rw [sa] at h2; injection h2 with h2; injection h2 with h2
    exact ⟨c, h2, h1⟩
  have L5 := L4.own (i := i0) (t := .io dS') sa (S := [a]) ⟨a, rfl, wa2, rfl⟩ (fun c hc => by rw [List.mem_singleton.mp hc]; exact ga) (fun c hc => by rw [List.mem_singleton.mp hc]; exact no5) (fun d z => hio)
  have eE : (((ρ.set i0 .un).set i2 (.ow ds)).set i0 (.io dS')) = ρ.set i0 (.io dS') := by
    apply List.ext_getElem?
    intro jj
    have l0 := (List.getElem?_eq_some_iff.mp e0).1
    by_cases h0 : jj = i0
    · subst h0
      rw [List.getElem?_set_self (by simp [l0]), List.getElem?_set_self l0]
    · rw [List.getElem?_set_ne (Ne.symm h0), List.getElem?_set_ne (Ne.symm h0)]
      by_cases h2 : jj = i2
      · subst h2
        rw [List.getElem?_set_self (by rw [List.length_set]; exact (List.getElem?_eq_some_iff.mp e2).1), e2]
      · rw [List.getElem?_set_ne (Ne.symm h2), List.getElem?_set_ne (Ne.symm h0)]
  rw [eE] at L5
  refine P B' H' cr.exB L5 (.ref pn) ⟨pn, rfl, wp, .inr (L.free hpn), fun z => ?_⟩
  -- what is made anew is none's
  obtain ⟨jj, s, v, U, e, qv, f, m⟩ := z
  rcases get_set e with ⟨rfl, z, _⟩ | ⟨ne, e⟩
  · subst z
    rw [sa] at qv; injection qv with qv; injection qv with qv; subst qv
    obtain ⟨_, rfl⟩ := f.one rfl
    rw [List.mem_singleton.mp m] at hpn
    exact wa.there.ne hpn
  · by_cases h2 : jj = i2
    · subst h2
      rw [e2] at e; injection e with e; subst e
      rw [ss] at qv; injection qv with qv; injection qv with qv; subst qv
      obtain ⟨_, rfl⟩ := f.one rfl
      rw [List.mem_singleton.mp m] at hpn
      exact ws'.there.ne hpn
    · have z3 : OwS X.K B' H' ((ρ.set i0 .un).set i2 .un) σ pn := ⟨jj, s, v, U, by rw [List.getElem?_set_ne (Ne.symm h2), List.getElem?_set_ne (Ne.symm ne)]; exact e, qv, f, m⟩
      have z4 := z3.back L2 cr.exB (cr.keeps L2 hO)
      exact (L2.hidOw z4).2.ne hpn
end
end Dt
namespace Dt
open PySem PySem.Spec PyProof.Rows L2
def mHidE {α : Type} (i : Nat) (f : M α) : M α := fun ρ => match ρ[i]? with
  | some (.ow d) => match f (ρ.set i .un) with
    | .ok a ρ1 => .ok a (ρ1.set i (.ow d))
    | .rz c ρ1 => .rz c ρ1
    | .fail => .fail
  | _ => .fail
section
variable {X : Cx} {W : WX} {e : Expr} {pos : Pos}
theorem ev_hidE (i : Nat) {f : M D} (h : EV X W e f) : EV X W e (mHidE i f) := by
  intro F ρ σ B H Q L P
  unfold mHidE at P
  split at P
  case h_2 => exact P.elim
  rename_i d e0
  obtain ⟨v, S, q, f0, g, no, L1⟩ := L.take e0 rfl
  refine h _ (ρ.set i .un) σ B H Q L1.nest ?_
  cases hf : f (ρ.set i .un) with
  | fail => simp only [hf] at P; exact P.elim
  | rz c ρ1 =>
    simp only [hf] at P
    exact fun B' H' eB M => P B' H' eB (L1.back M)
  | ok x ρ1 =>
    simp only [hf] at P
    intro B1 H1 eB M
    have kp : ∀ a ∈ S, B1 a = none ∧ ∀ o, H a = some o → H1 a = some o := fun a ha => ⟨M.hid a (f0.hid a ha).1 (f0.hid a ha).2 (no a ha), fun o q => M.kept a o q (no a ha)⟩
    have M' : Lv X.K F ρ1 σ B1 H1 := L1.back M
    have no1 : ∀ a ∈ S, ¬ OwS X.K B1 H1 (ρ1.set i .un) σ a := fun a ha z => by
      obtain ⟨j, s, u, T, n, e1, q1, f1, m1⟩ := z.un
      rcases M.ofOw ⟨j, s, u, T, e1, q1, f1, m1⟩ with h | h
      · exact no a ha h
      · exact (f0.hid a ha).2.ne h
    have f1 : Ft X.K B1 H1 v (.ow d) S := f0.keep M.exB (fun a ha => (kp a ha).1) (fun a ha => (kp a ha).2)
    exact P B1 H1 eB (M'.own q f1 g no1 (fun d z => nomatch z))
end
theorem t_hidE {α : Type} {i : Nat} {f : M α} {ρ ρ1 ρ2 : Env} {d : D} {a : α} (h : ρ[i]? = some (.ow d)) (hf : f (ρ.set i .un) = .ok a ρ1) (hr : ρ1.set i (.ow d) = ρ2) : mHidE i f ρ = .ok a ρ2 := by
  unfold mHidE; rw [h]; dsimp only; rw [hf]; dsimp only; rw [hr]
def JM {β γ : Type} (F : β → D) (G : γ → D) (d2 : D) (r : Rs Fl) (x : β × γ) : Prop := ∃ ρ' : List Slot, r = .ok (.rt (F x.1) .tt) ρ' ∧ ρ'[0]? = some (Slot.io (G x.2)) ∧ ρ'[2]? = some (Slot.io d2)
theorem jm_mk {β γ : Type} {F : β → D} {G : γ → D} {d2 d : D} {a : β} {b : γ} {ρ : List Slot} (e : d = F a) (h : ρ[0]? = some (Slot.io (G b))) (h2 : ρ[2]? = some (Slot.io d2)) : JM F G d2 (.ok (.rt d .tt) ρ) (a, b) := ⟨ρ, by rw [e], h, h2⟩
theorem jm_of {β γ : Type} {F : β → D} {G : γ → D} {f : M Fl} {dS dl d2 dc : D} {x : β × γ} (h : JM F G d2 (f (rm0 dS dl d2 dc)) x) : RmR f dS dl d2 dc (G x.2) (F x.1) := h
end Dt
namespace K03
open PySem PySem.Spec PyProof.Rows L2 Dt
noncomputable def fb__law_some : M Fl :=
  mSeq (mIf (mTest (mBin dEq (mFz (mCallN 2 (some 0) Std.fn__law_take (xS 0 (xV (M.pure (.int 4)) xNil)))) (M.pure (.int 0)))) (mRet (mCallN 2 none Std.fn__law_fraction (xV (mBin dAdd (M.pure (.int 1)) (mFz (mCallN 2 (some 0) Std.fn__law_take (xS 0 (xV (M.pure (.int 1000)) xNil))))) (xV (mBin dAdd (M.pure (.int 1)) (mFz (mCallN 2 (some 0) Std.fn__law_take (xS 0 (xV (M.pure (.int 1000)) xNil))))) xNil)))) mNx)
    (mRet (mCallN 2 none Std.fn__law_fraction (xV (mBin dAdd (M.pure (.int 1)) (mFz (mCallN 2 (some 0) Std.fn__law_take (xS 0 (xV (M.pure (.int 9)) xNil))))) (xV (mBin dAdd (M.pure (.int 1)) (mFz (mCallN 2 (some 0) Std.fn__law_take (xS 0 (xV (M.pure (.int 5)) xNil))))) xNil))))
noncomputable def fn__law_some : List D → Rf := runF (some 0) 1 fb__law_some
noncomputable def t__law_some (v_stream_here : Std.Stm) : (Rat × Std.Stm) :=
  cond (decide ((Std.t__law_take v_stream_here ((4 : Int))).1 = (0 : Int))) ((Rat.divInt (((1 : Int) + (Std.t__law_take ((Std.t__law_take v_stream_here ((4 : Int))).2) ((1000 : Int))).1)) (((1 : Int) + (Std.t__law_take ((Std.t__law_take ((Std.t__law_take v_stream_here ((4 : Int))).2) ((1000 : Int))).2) ((1000 : Int))).1))), (Std.t__law_take ((Std.t__law_take ((Std.t__law_take v_stream_here ((4 : Int))).2) ((1000 : Int))).2) ((1000 : Int))).2) ((Rat.divInt (((1 : Int) + (Std.t__law_take ((Std.t__law_take v_stream_here ((4 : Int))).2) ((9 : Int))).1)) (((1 : Int) + (Std.t__law_take ((Std.t__law_take ((Std.t__law_take v_stream_here ((4 : Int))).2) ((9 : Int))).2) ((5 : Int))).1))), (Std.t__law_take ((Std.t__law_take ((Std.t__law_take v_stream_here ((4 : Int))).2) ((9 : Int))).2) ((5 : Int))).2)
def s__law_some (v_stream_here : Std.Stm) : Prop :=
  (((decide ((Std.t__law_take v_stream_here ((4 : Int))).1 = (0 : Int))) = true → (0 < (((1 : Int) + (Std.t__law_take ((Std.t__law_take ((Std.t__law_take v_stream_here ((4 : Int))).2) ((1000 : Int))).2) ((1000 : Int))).1)))) ∧ ((decide ((Std.t__law_take v_stream_here ((4 : Int))).1 = (0 : Int))) = false → (0 < (((1 : Int) + (Std.t__law_take ((Std.t__law_take ((Std.t__law_take v_stream_here ((4 : Int))).2) ((9 : Int))).2) ((5 : Int))).1)))))
theorem e__law_some {v_stream_here : Std.Stm} (h : s__law_some v_stream_here) : fn__law_some [Std.eStm v_stream_here] = .ok (fq (t__law_some v_stream_here).1) .ff (Std.eStm (t__law_some v_stream_here).2) := by
  refine runI (F := fq) (G := Std.eStm) (o := .ff) (fb := fb__law_some) (x := t__law_some v_stream_here) ?_
  show JI 0 fq Std.eStm .ff (fb__law_some [.io (Std.eStm v_stream_here)]) _
  delta fb__law_some t__law_some
  delta s__law_some at h
  exact sqIf (tst (b2 (mfz (cN (x1s (i := 0) rfl rfl (x1 rfl x0)) rfl rfl (Std.e__law_take (s := v_stream_here) (most := (4 : Int)) (show 0 < ((4 : Int)) by decide) :) rfl)) rfl dEq_i)) (fun hc => bdh (h.1 hc) (fun h => sqRet (cN (x1 (b2 rfl (mfz (cN (x1s (i := 0) rfl rfl (x1 rfl x0)) rfl rfl (Std.e__law_take (s := (Std.t__law_take v_stream_here ((4 : Int))).2) (most := (1000 : Int)) (show 0 < ((1000 : Int)) by decide) :) rfl)) rfl) (x1 (b2 rfl (mfz (cN (x1s (i := 0) rfl rfl (x1 rfl x0)) rfl rfl (Std.e__law_take (s := (Std.t__law_take ((Std.t__law_take v_stream_here ((4 : Int))).2) ((1000 : Int))).2) (most := (1000 : Int)) (show 0 < ((1000 : Int)) by decide) :) rfl)) rfl) x0)) rfl rfl (Std.e__law_fraction (a := ((1 : Int) + (Std.t__law_take ((Std.t__law_take v_stream_here ((4 : Int))).2) ((1000 : Int))).1)) (b := ((1 : Int) + (Std.t__law_take ((Std.t__law_take ((Std.t__law_take v_stream_here ((4 : Int))).2) ((1000 : Int))).2) ((1000 : Int))).1)) h :) rfl) (ji_mk rfl rfl))) (fun hc => bdh (h.2 hc) (fun h => sq rfl (sRet (cN (x1 (b2 rfl (mfz (cN (x1s (i := 0) rfl rfl (x1 rfl x0)) rfl rfl (Std.e__law_take (s := (Std.t__law_take v_stream_here ((4 : Int))).2) (most := (9 : Int)) (show 0 < ((9 : Int)) by decide) :) rfl)) rfl) (x1 (b2 rfl (mfz (cN (x1s (i := 0) rfl rfl (x1 rfl x0)) rfl rfl (Std.e__law_take (s := (Std.t__law_take ((Std.t__law_take v_stream_here ((4 : Int))).2) ((9 : Int))).2) (most := (5 : Int)) (show 0 < ((5 : Int)) by decide) :) rfl)) rfl) x0)) rfl rfl (Std.e__law_fraction (a := ((1 : Int) + (Std.t__law_take ((Std.t__law_take v_stream_here ((4 : Int))).2) ((9 : Int))).1)) (b := ((1 : Int) + (Std.t__law_take ((Std.t__law_take ((Std.t__law_take v_stream_here ((4 : Int))).2) ((9 : Int))).2) ((5 : Int))).1)) h :) rfl) (ji_mk rfl rfl))))
noncomputable def fb__law_line : M Fl :=
  mSeq (mSet 2 (mLst (mCons (mBin dAdd (M.pure (.int 1)) (mFz (mCallN 2 (some 0) Std.fn__law_take (xS 0 (xV (M.pure (.int 300)) xNil))))) mNil)))
    (mSeq (mFor (mRange1 (mCons (mFz (mCallN 2 (some 0) Std.fn__law_take (xS 0 (xV (M.pure (.int 6)) xNil)))) mNil)) (gN 3) (mSeq (mApp1 2 (mBin dAdd (mPeek 2 (mUn dNeg (M.pure (.int 1)))) (mFz (mCallN 2 (some 0) Std.fn__law_take (xS 0 (xV (M.pure (.int 100)) xNil))))))
    (mSeq (mKill [3]) mNx)))
    (mSeq (mSet 4 (mOf (mBin dAdd (M.pure (.int 1)) (mFz (mCallN 2 (some 0) Std.fn__law_take (xS 0 (xV (M.pure (.int 1000)) xNil)))))))
    (mSeq (mSet 5 (mOf (mTup (mCons (M.pure (.int 0)) (mCons (M.pure (.int 1)) mNil)))))
    (mSeq (mIf (mAnd (mTest (mBin dNe (mVar 1) (M.pure (.str "wide")))) (mTest (mBin dEq (mFz (mCallN 2 (some 0) Std.fn__law_take (xS 0 (xV (M.pure (.int 2)) xNil)))) (M.pure (.int 1))))) (mSeq (mSet 5 (mCallN 1 (some 0) fn__law_some (xS 0 xNil)))
    mNx) mNx)
    (mSeq (mSet 6 (mOf (M.pure (.int 0))))
    (mSeq (mSet 7 (mOf (M.pure (.str ""))))
    (mSeq (mIf (mTest (mBin dEq (mVar 1) (M.pure (.str "tight")))) (mSeq (mSet 6 (mOf (mBin dAdd (M.pure (.int 1)) (mFz (mCallN 2 (some 0) Std.fn__law_take (xS 0 (xV (M.pure (.int 9)) xNil)))))))
    (mSeq (mSet 7 (mOf (mBin dIx (mFz (mLst (mCons (M.pure (.str "stay")) (mCons (M.pure (.str "lose")) (mCons (M.pure (.str "skip")) mNil))))) (mFz (mCallN 2 (some 0) Std.fn__law_take (xS 0 (xV (M.pure (.int 3)) xNil)))))))
    mNx)) mNx)
    (mSeq (mFrz 2)
    (mRet (mOf (mTup (mCons (mFz (mLc [8] (mIter (mVar 2)) (gN 8) (M.pure true) (mFz (mCallN 2 none Std.fn__law_fraction (xV (mVar 8) (xV (mVar 4) xNil)))))) (mCons (mVar 5) (mCons (mVar 6) (mCons (mVar 7) mNil)))))))))))))))
noncomputable def fn__law_line : List D → Rf := runF (some 0) 9 fb__law_line
noncomputable def t__law_line (v_stream_here : Std.Stm) (v_kind : Str) : (Line × Std.Stm) :=
  bd ((Std.t__law_take v_stream_here ((300 : Int))).2, ([((1 : Int) + (Std.t__law_take v_stream_here ((300 : Int))).1)] : List Int)) (fun (z1 : (Std.Stm × (List Int))) => bd ((rangeI 0 ((Std.t__law_take z1.1 ((6 : Int))).1)).foldl (fun (z2 : (Std.Stm × (List Int))) (xv3 : Int) => bd ((Std.t__law_take z2.1 ((100 : Int))).2, (z2.2 ++ [((ix z2.2 ((-(1 : Int)))) + (Std.t__law_take z2.1 ((100 : Int))).1)])) (fun (z4 : (Std.Stm × (List Int))) => (z4.1, z4.2))) ((Std.t__law_take z1.1 ((6 : Int))).2, z1.2)) (fun (z5 : (Std.Stm × (List Int))) => bd ((Std.t__law_take z5.1 ((1000 : Int))).2, ((1 : Int) + (Std.t__law_take z5.1 ((1000 : Int))).1)) (fun (z6 : (Std.Stm × Int)) => bd (0 : Rat) (fun (v_more_7 : Rat) => bd (cond ((!decide (v_kind = ("wide" : Str))) && (decide ((Std.t__law_take z6.1 ((2 : Int))).1 = (1 : Int)))) (bd ((t__law_some ((cond ((!decide (v_kind = ("wide" : Str)))) ((Std.t__law_take z6.1 ((2 : Int))).2) z6.1))).2, (t__law_some ((cond ((!decide (v_kind = ("wide" : Str)))) ((Std.t__law_take z6.1 ((2 : Int))).2) z6.1))).1) (fun (z11 : (Std.Stm × Rat)) => (z11.1, z11.2))) ((cond ((!decide (v_kind = ("wide" : Str)))) ((Std.t__law_take z6.1 ((2 : Int))).2) z6.1), v_more_7)) (fun (z13 : (Std.Stm × Rat)) => bd (0 : Int) (fun (v_room_14 : Int) => bd ("" : Str) (fun (v_rule_15 : Str) => bd (cond (decide (v_kind = ("tight" : Str))) (bd ((Std.t__law_take z13.1 ((9 : Int))).2, ((1 : Int) + (Std.t__law_take z13.1 ((9 : Int))).1)) (fun (z18 : (Std.Stm × Int)) => bd ((Std.t__law_take z18.1 ((3 : Int))).2, (ix (([("stay" : Str), ("lose" : Str), ("skip" : Str)] : List Str)) ((Std.t__law_take z18.1 ((3 : Int))).1))) (fun (z19 : (Std.Stm × Str)) => (z19.1, z18.2, z19.2)))) (z13.1, v_room_14, v_rule_15)) (fun (z21 : (Std.Stm × Int × Str)) => (((z5.2.map (fun (xv22 : Int) => (Rat.divInt xv22 z6.2))), z13.2, z21.2.1, z21.2.2), z21.1)))))))))
def s__law_line (v_stream_here : Std.Stm) (v_kind : Str) : Prop :=
  bd ((Std.t__law_take v_stream_here ((300 : Int))).2, ([((1 : Int) + (Std.t__law_take v_stream_here ((300 : Int))).1)] : List Int)) (fun (z1 : (Std.Stm × (List Int))) => ((-100000000 < ((Std.t__law_take z1.1 ((6 : Int))).1) ∧ ((Std.t__law_take z1.1 ((6 : Int))).1) < 100000000) ∧ (sfl (fun (z2 : (Std.Stm × (List Int))) (xv3 : Int) => bd ((Std.t__law_take z2.1 ((100 : Int))).2, (z2.2 ++ [((ix z2.2 ((-(1 : Int)))) + (Std.t__law_take z2.1 ((100 : Int))).1)])) (fun (z4 : (Std.Stm × (List Int))) => (z4.1, z4.2))) (fun (z2 : (Std.Stm × (List Int))) (xv3 : Int) => ((InB z2.2.length ((-(1 : Int)))) ∧ (z2.2.length < 10000))) (rangeI 0 ((Std.t__law_take z1.1 ((6 : Int))).1)) ((Std.t__law_take z1.1 ((6 : Int))).2, z1.2)) ∧ (bd ((rangeI 0 ((Std.t__law_take z1.1 ((6 : Int))).1)).foldl (fun (z2 : (Std.Stm × (List Int))) (xv3 : Int) => bd ((Std.t__law_take z2.1 ((100 : Int))).2, (z2.2 ++ [((ix z2.2 ((-(1 : Int)))) + (Std.t__law_take z2.1 ((100 : Int))).1)])) (fun (z4 : (Std.Stm × (List Int))) => (z4.1, z4.2))) ((Std.t__law_take z1.1 ((6 : Int))).2, z1.2)) (fun (z5 : (Std.Stm × (List Int))) => bd ((Std.t__law_take z5.1 ((1000 : Int))).2, ((1 : Int) + (Std.t__law_take z5.1 ((1000 : Int))).1)) (fun (z6 : (Std.Stm × Int)) => bd (0 : Rat) (fun (v_more_7 : Rat) => ((((!decide (v_kind = ("wide" : Str))) && (decide ((Std.t__law_take z6.1 ((2 : Int))).1 = (1 : Int)))) = true → (s__law_some ((cond ((!decide (v_kind = ("wide" : Str)))) ((Std.t__law_take z6.1 ((2 : Int))).2) z6.1)))) ∧ (bd (cond ((!decide (v_kind = ("wide" : Str))) && (decide ((Std.t__law_take z6.1 ((2 : Int))).1 = (1 : Int)))) (bd ((t__law_some ((cond ((!decide (v_kind = ("wide" : Str)))) ((Std.t__law_take z6.1 ((2 : Int))).2) z6.1))).2, (t__law_some ((cond ((!decide (v_kind = ("wide" : Str)))) ((Std.t__law_take z6.1 ((2 : Int))).2) z6.1))).1) (fun (z11 : (Std.Stm × Rat)) => (z11.1, z11.2))) ((cond ((!decide (v_kind = ("wide" : Str)))) ((Std.t__law_take z6.1 ((2 : Int))).2) z6.1), v_more_7)) (fun (z13 : (Std.Stm × Rat)) => bd (0 : Int) (fun (v_room_14 : Int) => bd ("" : Str) (fun (v_rule_15 : Str) => (((decide (v_kind = ("tight" : Str))) = true → bd ((Std.t__law_take z13.1 ((9 : Int))).2, ((1 : Int) + (Std.t__law_take z13.1 ((9 : Int))).1)) (fun (z18 : (Std.Stm × Int)) => (InB (([("stay" : Str), ("lose" : Str), ("skip" : Str)] : List Str)).length ((Std.t__law_take z18.1 ((3 : Int))).1)))) ∧ (bd (cond (decide (v_kind = ("tight" : Str))) (bd ((Std.t__law_take z13.1 ((9 : Int))).2, ((1 : Int) + (Std.t__law_take z13.1 ((9 : Int))).1)) (fun (z18 : (Std.Stm × Int)) => bd ((Std.t__law_take z18.1 ((3 : Int))).2, (ix (([("stay" : Str), ("lose" : Str), ("skip" : Str)] : List Str)) ((Std.t__law_take z18.1 ((3 : Int))).1))) (fun (z19 : (Std.Stm × Str)) => (z19.1, z18.2, z19.2)))) (z13.1, v_room_14, v_rule_15)) (fun (z21 : (Std.Stm × Int × Str)) => ((∀ xv22 ∈ z5.2, ((0 < z6.2))) ∧ (z5.2.length ≤ 10000))))))))))))))))
theorem e__law_line {v_stream_here : Std.Stm} {v_kind : Str} (h : s__law_line v_stream_here v_kind) : fn__law_line [Std.eStm v_stream_here, D.str v_kind] = .ok (eLine (t__law_line v_stream_here v_kind).1) .ff (Std.eStm (t__law_line v_stream_here v_kind).2) := by
  refine runI (F := eLine) (G := Std.eStm) (o := .ff) (fb := fb__law_line) (x := t__law_line v_stream_here v_kind) ?_
  show JI 0 eLine Std.eStm .ff (fb__law_line [.io (Std.eStm v_stream_here), .fz (D.str v_kind), .un, .un, .un, .un, .un, .un, .un]) _
  delta fb__law_line t__law_line
  delta s__law_line at h
  exact sqB (ctx := fun (z1 : (Std.Stm × (List Int))) => [.io (Std.eStm z1.1), .fz (D.str v_kind), .ow ((eL D.int) z1.2), .un, .un, .un, .un, .un, .un]) (sSetO (mlst (a1 (b2 rfl (mfz (cN (x1s (i := 0) rfl rfl (x1 rfl x0)) rfl rfl (Std.e__law_take (s := v_stream_here) (most := (300 : Int)) (show 0 < ((300 : Int)) by decide) :) rfl)) rfl) a0)) rfl) h (fun z1 h => sqB (ctx := fun (z5 : (Std.Stm × (List Int))) => [.io (Std.eStm z5.1), .fz (D.str v_kind), .ow ((eL D.int) z5.2), .un, .un, .un, .un, .un, .un]) (forN (F := D.int) (ctx := fun (z2 : (Std.Stm × (List Int))) => [.io (Std.eStm z2.1), .fz (D.str v_kind), .ow ((eL D.int) z2.2), .un, .un, .un, .un, .un, .un]) (i_r1 (a1 (mfz (cN (x1s (i := 0) rfl rfl (x1 rfl x0)) rfl rfl (Std.e__law_take (s := z1.1) (most := (6 : Int)) (show 0 < ((6 : Int)) by decide) :) rfl)) a0) h.1) h.2.1 (fun z2 xv3 h => ⟨_, rfl, sqB (ctx := fun (z4 : (Std.Stm × (List Int))) => [.io (Std.eStm z4.1), .fz (D.str v_kind), .ow ((eL D.int) z4.2), zI xv3, .un, .un, .un, .un, .un]) (S := fun _ => True) (sApp (i := 2) (F := D.int) (xs := z2.2) (v := ((ix z2.2 ((-(1 : Int)))) + (Std.t__law_take z2.1 ((100 : Int))).1)) (b2 (pk (i := 2) (F := D.int) (xs := z2.2) rfl (u1 rfl rfl) rfl h.1) (mfz (cN (x1s (i := 0) rfl rfl (x1 rfl x0)) rfl rfl (Std.e__law_take (s := z2.1) (most := (100 : Int)) (show 0 < ((100 : Int)) by decide) :) rfl)) rfl) ⟨_, rfl⟩ rfl h.2 rfl) trivial (fun z4 _ => sq (sKill (show _ = [.io (Std.eStm z4.1), .fz (D.str v_kind), .ow ((eL D.int) z4.2), .un, .un, .un, .un, .un, .un] from rfl)) rfl)⟩)) h.2.2 (fun z5 h => sqB (ctx := fun (z6 : (Std.Stm × Int)) => [.io (Std.eStm z6.1), .fz (D.str v_kind), .ow ((eL D.int) z5.2), .un, zI z6.2, .un, .un, .un, .un]) (sSet (mof (b2 rfl (mfz (cN (x1s (i := 0) rfl rfl (x1 rfl x0)) rfl rfl (Std.e__law_take (s := z5.1) (most := (1000 : Int)) (show 0 < ((1000 : Int)) by decide) :) rfl)) rfl)) rfl) h (fun z6 h => sqB (ctx := fun (v_more_7 : Rat) => [.io (Std.eStm z6.1), .fz (D.str v_kind), .ow ((eL D.int) z5.2), .un, zI z6.2, zQ v_more_7, .un, .un, .un]) (sSet (mof (mtup (a1 rfl (a1 rfl a0)))) rfl) h (fun v_more_7 h => sqB (ctx := fun (z13 : (Std.Stm × Rat)) => [.io (Std.eStm z13.1), .fz (D.str v_kind), .ow ((eL D.int) z5.2), .un, zI z6.2, zQ z13.2, .un, .un, .un]) (ifJ (ctx := fun (z12 : (Std.Stm × Rat)) => [.io (Std.eStm z12.1), .fz (D.str v_kind), .ow ((eL D.int) z5.2), .un, zI z6.2, zQ z12.2, .un, .un, .un]) (v := bd ((t__law_some ((cond ((!decide (v_kind = ("wide" : Str)))) ((Std.t__law_take z6.1 ((2 : Int))).2) z6.1))).2, (t__law_some ((cond ((!decide (v_kind = ("wide" : Str)))) ((Std.t__law_take z6.1 ((2 : Int))).2) z6.1))).1) (fun (z11 : (Std.Stm × Rat)) => (z11.1, z11.2))) (w := ((cond ((!decide (v_kind = ("wide" : Str)))) ((Std.t__law_take z6.1 ((2 : Int))).2) z6.1), v_more_7)) (anS (ctx := fun z9 => [.io (Std.eStm z9), .fz (D.str v_kind), .ow ((eL D.int) z5.2), .un, zI z6.2, zQ v_more_7, .un, .un, .un]) (s1 := z6.1) (s2 := (Std.t__law_take z6.1 ((2 : Int))).2) (tst (b2 (vf 1 rfl) rfl dNe_s)) (fun hc8 => tst (b2 (mfz (cN (x1s (i := 0) rfl rfl (x1 rfl x0)) rfl rfl (Std.e__law_take (s := z6.1) (most := (2 : Int)) (show 0 < ((2 : Int)) by decide) :) rfl)) rfl dEq_i))) (fun hc => (bdh (h.1 hc) (fun h => jnE (ctx := fun (z12 : (Std.Stm × Rat)) => [.io (Std.eStm z12.1), .fz (D.str v_kind), .ow ((eL D.int) z5.2), .un, zI z6.2, zQ z12.2, .un, .un, .un]) (s := bd ((t__law_some ((cond ((!decide (v_kind = ("wide" : Str)))) ((Std.t__law_take z6.1 ((2 : Int))).2) z6.1))).2, (t__law_some ((cond ((!decide (v_kind = ("wide" : Str)))) ((Std.t__law_take z6.1 ((2 : Int))).2) z6.1))).1) (fun (z11 : (Std.Stm × Rat)) => (z11.1, z11.2))) (sqB (ctx := fun (z11 : (Std.Stm × Rat)) => [.io (Std.eStm z11.1), .fz (D.str v_kind), .ow ((eL D.int) z5.2), .un, zI z6.2, zQ z11.2, .un, .un, .un]) (S := fun _ => True) (sSet (cN (x1s (i := 0) rfl rfl x0) rfl rfl (e__law_some (v_stream_here := (cond ((!decide (v_kind = ("wide" : Str)))) ((Std.t__law_take z6.1 ((2 : Int))).2) z6.1)) h :) rfl) rfl) trivial (fun z11 _ => rfl))))) (fun _ => jnE (ctx := fun (z12 : (Std.Stm × Rat)) => [.io (Std.eStm z12.1), .fz (D.str v_kind), .ow ((eL D.int) z5.2), .un, zI z6.2, zQ z12.2, .un, .un, .un]) (s := ((cond ((!decide (v_kind = ("wide" : Str)))) ((Std.t__law_take z6.1 ((2 : Int))).2) z6.1), v_more_7)) rfl)) h.2 (fun z13 h => sqB (ctx := fun (v_room_14 : Int) => [.io (Std.eStm z13.1), .fz (D.str v_kind), .ow ((eL D.int) z5.2), .un, zI z6.2, zQ z13.2, zI v_room_14, .un, .un]) (sSet (mof rfl) rfl) h (fun v_room_14 h => sqB (ctx := fun (v_rule_15 : Str) => [.io (Std.eStm z13.1), .fz (D.str v_kind), .ow ((eL D.int) z5.2), .un, zI z6.2, zQ z13.2, zI v_room_14, .fz (D.str v_rule_15), .un]) (sSet (mof rfl) rfl) h (fun v_rule_15 h => sqB (ctx := fun (z21 : (Std.Stm × Int × Str)) => [.io (Std.eStm z21.1), .fz (D.str v_kind), .ow ((eL D.int) z5.2), .un, zI z6.2, zQ z13.2, zI z21.2.1, .fz (D.str z21.2.2), .un]) (ifJ (ctx := fun (z20 : (Std.Stm × Int × Str)) => [.io (Std.eStm z20.1), .fz (D.str v_kind), .ow ((eL D.int) z5.2), .un, zI z6.2, zQ z13.2, zI z20.2.1, .fz (D.str z20.2.2), .un]) (v := bd ((Std.t__law_take z13.1 ((9 : Int))).2, ((1 : Int) + (Std.t__law_take z13.1 ((9 : Int))).1)) (fun (z18 : (Std.Stm × Int)) => bd ((Std.t__law_take z18.1 ((3 : Int))).2, (ix (([("stay" : Str), ("lose" : Str), ("skip" : Str)] : List Str)) ((Std.t__law_take z18.1 ((3 : Int))).1))) (fun (z19 : (Std.Stm × Str)) => (z19.1, z18.2, z19.2)))) (w := (z13.1, v_room_14, v_rule_15)) (tst (b2 (vf 1 rfl) rfl dEq_s)) (fun hc => (bdh (h.1 hc) (fun h => jnE (ctx := fun (z20 : (Std.Stm × Int × Str)) => [.io (Std.eStm z20.1), .fz (D.str v_kind), .ow ((eL D.int) z5.2), .un, zI z6.2, zQ z13.2, zI z20.2.1, .fz (D.str z20.2.2), .un]) (s := bd ((Std.t__law_take z13.1 ((9 : Int))).2, ((1 : Int) + (Std.t__law_take z13.1 ((9 : Int))).1)) (fun (z18 : (Std.Stm × Int)) => bd ((Std.t__law_take z18.1 ((3 : Int))).2, (ix (([("stay" : Str), ("lose" : Str), ("skip" : Str)] : List Str)) ((Std.t__law_take z18.1 ((3 : Int))).1))) (fun (z19 : (Std.Stm × Str)) => (z19.1, z18.2, z19.2)))) (sqB (ctx := fun (z18 : (Std.Stm × Int)) => [.io (Std.eStm z18.1), .fz (D.str v_kind), .ow ((eL D.int) z5.2), .un, zI z6.2, zQ z13.2, zI z18.2, .fz (D.str v_rule_15), .un]) (sSet (mof (b2 rfl (mfz (cN (x1s (i := 0) rfl rfl (x1 rfl x0)) rfl rfl (Std.e__law_take (s := z13.1) (most := (9 : Int)) (show 0 < ((9 : Int)) by decide) :) rfl)) rfl)) rfl) h (fun z18 h => sqB (ctx := fun (z19 : (Std.Stm × Str)) => [.io (Std.eStm z19.1), .fz (D.str v_kind), .ow ((eL D.int) z5.2), .un, zI z6.2, zQ z13.2, zI z18.2, .fz (D.str z19.2), .un]) (S := fun _ => True) (sSet (mof (b2 (mfz (mlst (a1 rfl (a1 rfl (a1 rfl a0))))) (mfz (cN (x1s (i := 0) rfl rfl (x1 rfl x0)) rfl rfl (Std.e__law_take (s := z18.1) (most := (3 : Int)) (show 0 < ((3 : Int)) by decide) :) rfl)) (o_ixL (F := D.str) (xs := ([("stay" : Str), ("lose" : Str), ("skip" : Str)] : List Str)) h))) rfl) trivial (fun z19 _ => rfl)))))) (fun _ => jnE (ctx := fun (z20 : (Std.Stm × Int × Str)) => [.io (Std.eStm z20.1), .fz (D.str v_kind), .ow ((eL D.int) z5.2), .un, zI z6.2, zQ z13.2, zI z20.2.1, .fz (D.str z20.2.2), .un]) (s := (z13.1, v_room_14, v_rule_15)) rfl)) h.2 (fun z21 h => sq (sFrz (i := 2) rfl (show _ = [.io (Std.eStm z21.1), .fz (D.str v_kind), zJ z5.2, .un, zI z6.2, zQ z13.2, zI z21.2.1, .fz (D.str z21.2.2), .un] from rfl)) (sRet (mof (mtup (a1 (mfz (lcM (F := D.int) (G := fq) (φ := fun (xv22 : Int) => (Rat.divInt xv22 z6.2)) (ρ1 := [.io (Std.eStm z21.1), .fz (D.str v_kind), zJ z5.2, .un, zI z6.2, zQ z13.2, zI z21.2.1, .fz (D.str z21.2.2), .un]) (i_L (F := D.int) (vf 2 rfl)) rfl (fun xv22 hx23 => ⟨_, rfl, rfl, _, mfz (cN (x1 (vf 8 rfl) (x1 (vf 4 rfl) x0)) rfl rfl (Std.e__law_fraction (a := xv22) (b := z6.2) (h.1 xv22 hx23) :) rfl), rfl⟩) h.2 rfl)) (a1 (vf 5 rfl) (a1 (vf 6 rfl) (a1 (vf 7 rfl) a0)))))) (ji_mk rfl rfl))))))))))
noncomputable def fb__law_ways : M Fl :=
  mSeq (mSet 3 (mLc [6] (mRange1 (mCons (mVar 1) mNil)) (gN 6) (mTest (mBin dEq (mFz (mCallN 2 (some 0) Std.fn__law_take (xS 0 (xV (M.pure (.int 3)) xNil)))) (M.pure (.int 1)))) (mVar 6)))
    (mSeq (mFrz 3)
    (mSeq (mIf (mAnd (mTest (mVar 2)) (mTest (mBin dEq (mVar 3) (mFz (mLst mNil))))) (mSeq (mSet 3 (mLst (mCons (mFz (mCallN 2 (some 0) Std.fn__law_take (xS 0 (xV (mVar 1) xNil)))) mNil)))
    (mSeq (mFrz 3) mNx)) mNx)
    (mSeq (mSet 4 (mLc [6] (mIter (mVar 3)) (gN 6) (M.pure true) (mBin dAdd (M.pure (.int 1)) (mFz (mCallN 2 (some 0) Std.fn__law_take (xS 0 (xV (M.pure (.int 9)) xNil)))))))
    (mSeq (mFrz 4)
    (mSeq (mSet 5 (mOf (mBin dAdd (mCall dSum (mCons (mVar 4) mNil)) (mBin dMul (mFz (mCallN 2 (some 0) Std.fn__law_take (xS 0 (xV (M.pure (.int 5)) xNil)))) (mCall dInt (mCons (mNotV (mVar 2)) mNil))))))
    (mRet (mLc [6, 7] (mZip (mCons (mVar 3) (mCons (mVar 4) mNil))) (gT 2 (gsC (gN 6) (gsC (gN 7) gsN))) (M.pure true) (mTup (mCons (mVar 6) (mCons (mFz (mCallN 2 none Std.fn__law_fraction (xV (mVar 7) (xV (mVar 5) xNil)))) mNil))))))))))
noncomputable def fn__law_ways : List D → Rf := runF (some 0) 8 fb__law_ways
noncomputable def t__law_ways (v_stream_here : Std.Stm) (v_stands : Int) (v_all_stay : Bool) : ((List Way) × Std.Stm) :=
  bd ((lcS (fun (xv1 : Int) (s2 : Std.Stm) => ((decide ((Std.t__law_take s2 ((3 : Int))).1 = (1 : Int))), (Std.t__law_take s2 ((3 : Int))).2)) (fun (xv1 : Int) (s2 : Std.Stm) => (xv1, s2)) (rangeI 0 v_stands) v_stream_here).2, (lcS (fun (xv1 : Int) (s2 : Std.Stm) => ((decide ((Std.t__law_take s2 ((3 : Int))).1 = (1 : Int))), (Std.t__law_take s2 ((3 : Int))).2)) (fun (xv1 : Int) (s2 : Std.Stm) => (xv1, s2)) (rangeI 0 v_stands) v_stream_here).1) (fun (z5 : (Std.Stm × (List Int))) => bd (cond (v_all_stay && (decide (z5.2 = ([] : List Int)))) (bd ((Std.t__law_take z5.1 v_stands).2, ([(Std.t__law_take z5.1 v_stands).1] : List Int)) (fun (z8 : (Std.Stm × (List Int))) => (z8.1, z8.2))) (z5.1, z5.2)) (fun (z10 : (Std.Stm × (List Int))) => bd ((lcS (fun (xv11 : Int) (s12 : Std.Stm) => (true, s12)) (fun (xv11 : Int) (s12 : Std.Stm) => (((1 : Int) + (Std.t__law_take s12 ((9 : Int))).1), (Std.t__law_take s12 ((9 : Int))).2)) z10.2 z10.1).2, (lcS (fun (xv11 : Int) (s12 : Std.Stm) => (true, s12)) (fun (xv11 : Int) (s12 : Std.Stm) => (((1 : Int) + (Std.t__law_take s12 ((9 : Int))).1), (Std.t__law_take s12 ((9 : Int))).2)) z10.2 z10.1).1) (fun (z15 : (Std.Stm × (List Int))) => bd ((Std.t__law_take z15.1 ((5 : Int))).2, (z15.2.sum + ((Std.t__law_take z15.1 ((5 : Int))).1 * (Dt.b2i (!v_all_stay))))) (fun (z16 : (Std.Stm × Int)) => (((z10.2.zip z15.2).map (fun (xv17 : (Int × Int)) => (xv17.1, (Rat.divInt xv17.2 z16.2)))), z16.1)))))
def s__law_ways (v_stream_here : Std.Stm) (v_stands : Int) (v_all_stay : Bool) : Prop :=
  ((-100000000 < v_stands ∧ v_stands < 100000000) ∧ (((rangeI 0 v_stands)).length ≤ 10000) ∧ (bd ((lcS (fun (xv1 : Int) (s2 : Std.Stm) => ((decide ((Std.t__law_take s2 ((3 : Int))).1 = (1 : Int))), (Std.t__law_take s2 ((3 : Int))).2)) (fun (xv1 : Int) (s2 : Std.Stm) => (xv1, s2)) (rangeI 0 v_stands) v_stream_here).2, (lcS (fun (xv1 : Int) (s2 : Std.Stm) => ((decide ((Std.t__law_take s2 ((3 : Int))).1 = (1 : Int))), (Std.t__law_take s2 ((3 : Int))).2)) (fun (xv1 : Int) (s2 : Std.Stm) => (xv1, s2)) (rangeI 0 v_stands) v_stream_here).1) (fun (z5 : (Std.Stm × (List Int))) => (((v_all_stay && (decide (z5.2 = ([] : List Int)))) = true → (0 < v_stands)) ∧ (bd (cond (v_all_stay && (decide (z5.2 = ([] : List Int)))) (bd ((Std.t__law_take z5.1 v_stands).2, ([(Std.t__law_take z5.1 v_stands).1] : List Int)) (fun (z8 : (Std.Stm × (List Int))) => (z8.1, z8.2))) (z5.1, z5.2)) (fun (z10 : (Std.Stm × (List Int))) => ((z10.2.length ≤ 10000) ∧ (bd ((lcS (fun (xv11 : Int) (s12 : Std.Stm) => (true, s12)) (fun (xv11 : Int) (s12 : Std.Stm) => (((1 : Int) + (Std.t__law_take s12 ((9 : Int))).1), (Std.t__law_take s12 ((9 : Int))).2)) z10.2 z10.1).2, (lcS (fun (xv11 : Int) (s12 : Std.Stm) => (true, s12)) (fun (xv11 : Int) (s12 : Std.Stm) => (((1 : Int) + (Std.t__law_take s12 ((9 : Int))).1), (Std.t__law_take s12 ((9 : Int))).2)) z10.2 z10.1).1) (fun (z15 : (Std.Stm × (List Int))) => ((mulOk ((Std.t__law_take z15.1 ((5 : Int))).1) ((Dt.b2i (!v_all_stay))) = true) ∧ (bd ((Std.t__law_take z15.1 ((5 : Int))).2, (z15.2.sum + ((Std.t__law_take z15.1 ((5 : Int))).1 * (Dt.b2i (!v_all_stay))))) (fun (z16 : (Std.Stm × Int)) => ((∀ xv17 ∈ (z10.2.zip z15.2), ((0 < z16.2))) ∧ (((z10.2.zip z15.2)).length ≤ 10000))))))))))))))
theorem e__law_ways {v_stream_here : Std.Stm} {v_stands : Int} {v_all_stay : Bool} (h : s__law_ways v_stream_here v_stands v_all_stay) : fn__law_ways [Std.eStm v_stream_here, D.int v_stands, D.bl v_all_stay] = .ok ((eL eWay) (t__law_ways v_stream_here v_stands v_all_stay).1) .tt (Std.eStm (t__law_ways v_stream_here v_stands v_all_stay).2) := by
  refine runI (F := (eL eWay)) (G := Std.eStm) (o := .tt) (fb := fb__law_ways) (x := t__law_ways v_stream_here v_stands v_all_stay) ?_
  show JI 0 (eL eWay) Std.eStm .tt (fb__law_ways [.io (Std.eStm v_stream_here), zI v_stands, .fz (D.bl v_all_stay), .un, .un, .un, .un, .un]) _
  delta fb__law_ways t__law_ways
  delta s__law_ways at h
  exact sqB (ctx := fun (z5 : (Std.Stm × (List Int))) => [.io (Std.eStm z5.1), zI v_stands, .fz (D.bl v_all_stay), .ow ((eL D.int) z5.2), .un, .un, .un, .un]) (sSetO (lcSt (F := D.int) (G := D.int) (p := (fun (xv1 : Int) (s2 : Std.Stm) => ((decide ((Std.t__law_take s2 ((3 : Int))).1 = (1 : Int))), (Std.t__law_take s2 ((3 : Int))).2))) (φ := (fun (xv1 : Int) (s2 : Std.Stm) => (xv1, s2))) (S := (fun (xv1 : Int) (s2 : Std.Stm) => True)) (ctx := fun s_ => [.io (Std.eStm s_), zI v_stands, .fz (D.bl v_all_stay), .un, .un, .un, .un, .un]) (ctx9 := fun s_ => [.io (Std.eStm s_), zI v_stands, .fz (D.bl v_all_stay), .un, .un, .un, .un, .un]) (s := v_stream_here) (i_r1 (a1 (vf 1 rfl) a0) h.1) rfl slcS_T (fun xv1 s2 hs3 => ⟨fun s_ => [.io (Std.eStm s_), zI v_stands, .fz (D.bl v_all_stay), .un, .un, .un, zI xv1, .un], rfl, tst (b2 (mfz (cN (x1s (i := 0) rfl rfl (x1 rfl x0)) rfl rfl (Std.e__law_take (s := s2) (most := (3 : Int)) (show 0 < ((3 : Int)) by decide) :) rfl)) rfl dEq_i), fun _ => rfl, fun hc4 => vf 6 rfl⟩) h.2.1 (fun _ => rfl)) rfl) h.2.2 (fun z5 h => sq (sFrz (i := 3) rfl (show _ = [.io (Std.eStm z5.1), zI v_stands, .fz (D.bl v_all_stay), zJ z5.2, .un, .un, .un, .un] from rfl)) (sqB (ctx := fun (z10 : (Std.Stm × (List Int))) => [.io (Std.eStm z10.1), zI v_stands, .fz (D.bl v_all_stay), zJ z10.2, .un, .un, .un, .un]) (ifJ (ctx := fun (z9 : (Std.Stm × (List Int))) => [.io (Std.eStm z9.1), zI v_stands, .fz (D.bl v_all_stay), zJ z9.2, .un, .un, .un, .un]) (v := bd ((Std.t__law_take z5.1 v_stands).2, ([(Std.t__law_take z5.1 v_stands).1] : List Int)) (fun (z8 : (Std.Stm × (List Int))) => (z8.1, z8.2))) (w := (z5.1, z5.2)) (an (tst (vf 2 rfl)) (fun hc6 => tst (b2 (vf 3 rfl) (mfz (mlst a0)) ((o_eq (F := (eL D.int)) (x := z5.2) (y := ([] : List Int)) (gL gI)))))) (fun hc => (bdh (h.1 hc) (fun h => jnE (ctx := fun (z9 : (Std.Stm × (List Int))) => [.io (Std.eStm z9.1), zI v_stands, .fz (D.bl v_all_stay), zJ z9.2, .un, .un, .un, .un]) (s := bd ((Std.t__law_take z5.1 v_stands).2, ([(Std.t__law_take z5.1 v_stands).1] : List Int)) (fun (z8 : (Std.Stm × (List Int))) => (z8.1, z8.2))) (sqB (ctx := fun (z8 : (Std.Stm × (List Int))) => [.io (Std.eStm z8.1), zI v_stands, .fz (D.bl v_all_stay), .ow ((eL D.int) z8.2), .un, .un, .un, .un]) (S := fun _ => True) (sSetO (mlst (a1 (mfz (cN (x1s (i := 0) rfl rfl (x1 (vf 1 rfl) x0)) rfl rfl (Std.e__law_take (s := z5.1) (most := v_stands) h :) rfl)) a0)) rfl) trivial (fun z8 _ => sq (sFrz (i := 3) rfl (show _ = [.io (Std.eStm z8.1), zI v_stands, .fz (D.bl v_all_stay), zJ z8.2, .un, .un, .un, .un] from rfl)) rfl))))) (fun _ => jnE (ctx := fun (z9 : (Std.Stm × (List Int))) => [.io (Std.eStm z9.1), zI v_stands, .fz (D.bl v_all_stay), zJ z9.2, .un, .un, .un, .un]) (s := (z5.1, z5.2)) rfl)) h.2 (fun z10 h => sqB (ctx := fun (z15 : (Std.Stm × (List Int))) => [.io (Std.eStm z15.1), zI v_stands, .fz (D.bl v_all_stay), zJ z10.2, .ow ((eL D.int) z15.2), .un, .un, .un]) (sSetO (lcSt (F := D.int) (G := D.int) (p := (fun (xv11 : Int) (s12 : Std.Stm) => (true, s12))) (φ := (fun (xv11 : Int) (s12 : Std.Stm) => (((1 : Int) + (Std.t__law_take s12 ((9 : Int))).1), (Std.t__law_take s12 ((9 : Int))).2))) (S := (fun (xv11 : Int) (s12 : Std.Stm) => True)) (ctx := fun s_ => [.io (Std.eStm s_), zI v_stands, .fz (D.bl v_all_stay), zJ z10.2, .un, .un, .un, .un]) (ctx9 := fun s_ => [.io (Std.eStm s_), zI v_stands, .fz (D.bl v_all_stay), zJ z10.2, .un, .un, .un, .un]) (s := z10.1) (i_L (F := D.int) (vf 3 rfl)) rfl slcS_T (fun xv11 s12 hs13 => ⟨fun s_ => [.io (Std.eStm s_), zI v_stands, .fz (D.bl v_all_stay), zJ z10.2, .un, .un, zI xv11, .un], rfl, rfl, fun _ => rfl, fun hc14 => b2 rfl (mfz (cN (x1s (i := 0) rfl rfl (x1 rfl x0)) rfl rfl (Std.e__law_take (s := s12) (most := (9 : Int)) (show 0 < ((9 : Int)) by decide) :) rfl)) rfl⟩) h.1 (fun _ => rfl)) rfl) h.2 (fun z15 h => sq (sFrz (i := 4) rfl (show _ = [.io (Std.eStm z15.1), zI v_stands, .fz (D.bl v_all_stay), zJ z10.2, zJ z15.2, .un, .un, .un] from rfl)) (sqB (ctx := fun (z16 : (Std.Stm × Int)) => [.io (Std.eStm z16.1), zI v_stands, .fz (D.bl v_all_stay), zJ z10.2, zJ z15.2, zI z16.2, .un, .un]) (sSet (mof (b2 (c1 (a1 (vf 4 rfl) a0) o_sum) (b2 (mfz (cN (x1s (i := 0) rfl rfl (x1 rfl x0)) rfl rfl (Std.e__law_take (s := z15.1) (most := (5 : Int)) (show 0 < ((5 : Int)) by decide) :) rfl)) (c1 (a1 (ntV (vf 2 rfl)) a0) o_int) (o_mul h.1)) rfl)) rfl) h.2 (fun z16 h => sRet (lcM (F := (eT2 D.int D.int)) (G := eWay) (φ := fun (xv17 : (Int × Int)) => (xv17.1, (Rat.divInt xv17.2 z16.2))) (ρ1 := [.io (Std.eStm z16.1), zI v_stands, .fz (D.bl v_all_stay), zJ z10.2, zJ z15.2, zI z16.2, .un, .un]) (i_zip (F := D.int) (G := D.int) (a1 (vf 3 rfl) (a1 (vf 4 rfl) a0))) rfl (fun xv17 hx18 => ⟨_, rfl, rfl, _, mtup (a1 (vf 6 rfl) (a1 (mfz (cN (x1 (vf 7 rfl) (x1 (vf 5 rfl) x0)) rfl rfl (Std.e__law_fraction (a := xv17.2) (b := z16.2) (h.1 xv17 hx18) :) rfl)) a0)), rfl⟩) h.2 rfl) (ji_mk rfl rfl)))))))
noncomputable def fb__law_rooms : M Fl :=
  mSeq (mSet 4 (mLst mNil))
    (mSeq (mFor (mEnum (mCons (mVar 1) mNil)) (gT 2 (gsC (gN 5) (gsC (gN 6) gsN))) (mSeq (mSet 7 (mOf (mHidE 4 (mTh thV 2 (mCall dSum (mCons (mFz (mLc [9, 10] (mZip (mCons (mVar 3) (mCons (mVar 2) mNil))) (gT 2 (gsC (gN 9) (gsC (gN 10) gsN))) (mTest (mBin dEq (mBin dIx (mVar 10) (M.pure (.int 0))) (mVar 5))) (mVar 9))) mNil))))))
    (mSeq (mIf (mTest (mBin dEq (mFz (mCallN 2 (some 0) Std.fn__law_take (xS 0 (xV (M.pure (.int 2)) xNil)))) (M.pure (.int 1)))) (mSeq (mSet 8 (mOf (mCall dMin2 (mCons (M.pure (.int 9)) (mCons (mBin dAdd (mCall dMax2 (mCons (M.pure (.int 1)) (mCons (mVar 7) mNil))) (mFz (mCallN 2 (some 0) Std.fn__law_take (xS 0 (xV (M.pure (.int 4)) xNil))))) mNil)))))
    (mSeq (mSet 6 (mOf (mTup (mCons (mBin dIx (mVar 6) (M.pure (.int 0))) (mCons (mBin dIx (mVar 6) (M.pure (.int 1))) (mCons (mVar 8) (mCons (mBin dIx (mFz (mLst (mCons (M.pure (.str "stay")) (mCons (M.pure (.str "skip")) mNil)))) (mFz (mCallN 2 (some 0) Std.fn__law_take (xS 0 (xV (M.pure (.int 2)) xNil))))) mNil)))))))
    (mSeq (mKill [8]) mNx))) mNx)
    (mSeq (mApp1 4 (mVar 6))
    (mSeq (mKill [5, 6, 7]) mNx)))))
    (mRet (mMove 4)))
noncomputable def t__law_rooms (v_stream_here : Std.Stm) (v_lines : (List Line)) (v_stands : (List Stand)) (v_counts : (List Int)) : ((List Line) × Std.Stm) :=
  bd ([] : List Line) (fun (v_found_1 : (List Line)) => bd ((enumI v_lines).foldl (fun (z2 : (Std.Stm × (List Line))) (xv3 : (Int × Line)) => bd (((((v_counts.zip v_stands).filter (fun (xv4 : (Int × Stand)) => (decide (xv4.2.1 = xv3.1)))).map (fun (xv4 : (Int × Stand)) => xv4.1))).sum) (fun (v_begins_7 : Int) => bd (cond (decide ((Std.t__law_take z2.1 ((2 : Int))).1 = (1 : Int))) (bd ((Std.t__law_take ((Std.t__law_take z2.1 ((2 : Int))).2) ((4 : Int))).2, (min ((9 : Int)) (((max ((1 : Int)) v_begins_7) + (Std.t__law_take ((Std.t__law_take z2.1 ((2 : Int))).2) ((4 : Int))).1)))) (fun (z10 : (Std.Stm × Int)) => bd ((Std.t__law_take z10.1 ((2 : Int))).2, (xv3.2.1, xv3.2.2.1, z10.2, (ix (([("stay" : Str), ("skip" : Str)] : List Str)) ((Std.t__law_take z10.1 ((2 : Int))).1)))) (fun (z11 : (Std.Stm × Line)) => (z11.1, z11.2)))) ((Std.t__law_take z2.1 ((2 : Int))).2, xv3.2)) (fun (z13 : (Std.Stm × Line)) => bd (z2.2 ++ [z13.2]) (fun (v_found_14 : (List Line)) => (z13.1, v_found_14))))) (v_stream_here, v_found_1)) (fun (z15 : (Std.Stm × (List Line))) => (z15.2, z15.1)))
def s__law_rooms (v_stream_here : Std.Stm) (v_lines : (List Line)) (v_stands : (List Stand)) (v_counts : (List Int)) : Prop :=
  bd ([] : List Line) (fun (v_found_1 : (List Line)) => (sfl (fun (z2 : (Std.Stm × (List Line))) (xv3 : (Int × Line)) => bd (((((v_counts.zip v_stands).filter (fun (xv4 : (Int × Stand)) => (decide (xv4.2.1 = xv3.1)))).map (fun (xv4 : (Int × Stand)) => xv4.1))).sum) (fun (v_begins_7 : Int) => bd (cond (decide ((Std.t__law_take z2.1 ((2 : Int))).1 = (1 : Int))) (bd ((Std.t__law_take ((Std.t__law_take z2.1 ((2 : Int))).2) ((4 : Int))).2, (min ((9 : Int)) (((max ((1 : Int)) v_begins_7) + (Std.t__law_take ((Std.t__law_take z2.1 ((2 : Int))).2) ((4 : Int))).1)))) (fun (z10 : (Std.Stm × Int)) => bd ((Std.t__law_take z10.1 ((2 : Int))).2, (xv3.2.1, xv3.2.2.1, z10.2, (ix (([("stay" : Str), ("skip" : Str)] : List Str)) ((Std.t__law_take z10.1 ((2 : Int))).1)))) (fun (z11 : (Std.Stm × Line)) => (z11.1, z11.2)))) ((Std.t__law_take z2.1 ((2 : Int))).2, xv3.2)) (fun (z13 : (Std.Stm × Line)) => bd (z2.2 ++ [z13.2]) (fun (v_found_14 : (List Line)) => (z13.1, v_found_14))))) (fun (z2 : (Std.Stm × (List Line))) (xv3 : (Int × Line)) => ((((v_counts.zip v_stands)).length ≤ 10000) ∧ (bd (((((v_counts.zip v_stands).filter (fun (xv4 : (Int × Stand)) => (decide (xv4.2.1 = xv3.1)))).map (fun (xv4 : (Int × Stand)) => xv4.1))).sum) (fun (v_begins_7 : Int) => (((decide ((Std.t__law_take z2.1 ((2 : Int))).1 = (1 : Int))) = true → bd ((Std.t__law_take ((Std.t__law_take z2.1 ((2 : Int))).2) ((4 : Int))).2, (min ((9 : Int)) (((max ((1 : Int)) v_begins_7) + (Std.t__law_take ((Std.t__law_take z2.1 ((2 : Int))).2) ((4 : Int))).1)))) (fun (z10 : (Std.Stm × Int)) => (InB (([("stay" : Str), ("skip" : Str)] : List Str)).length ((Std.t__law_take z10.1 ((2 : Int))).1)))) ∧ (bd (cond (decide ((Std.t__law_take z2.1 ((2 : Int))).1 = (1 : Int))) (bd ((Std.t__law_take ((Std.t__law_take z2.1 ((2 : Int))).2) ((4 : Int))).2, (min ((9 : Int)) (((max ((1 : Int)) v_begins_7) + (Std.t__law_take ((Std.t__law_take z2.1 ((2 : Int))).2) ((4 : Int))).1)))) (fun (z10 : (Std.Stm × Int)) => bd ((Std.t__law_take z10.1 ((2 : Int))).2, (xv3.2.1, xv3.2.2.1, z10.2, (ix (([("stay" : Str), ("skip" : Str)] : List Str)) ((Std.t__law_take z10.1 ((2 : Int))).1)))) (fun (z11 : (Std.Stm × Line)) => (z11.1, z11.2)))) ((Std.t__law_take z2.1 ((2 : Int))).2, xv3.2)) (fun (z13 : (Std.Stm × Line)) => (z2.2.length < 10000)))))))) (enumI v_lines) (v_stream_here, v_found_1)))
theorem e__law_rooms {v_stream_here : Std.Stm} {v_lines : (List Line)} {v_stands : (List Stand)} {v_counts : (List Int)} (h : s__law_rooms v_stream_here v_lines v_stands v_counts) : RmR fb__law_rooms (Std.eStm v_stream_here) ((eL eLine) v_lines) ((eL eStand) v_stands) ((eL D.int) v_counts) (Std.eStm (t__law_rooms v_stream_here v_lines v_stands v_counts).2) ((eL eLine) (t__law_rooms v_stream_here v_lines v_stands v_counts).1) := by
  refine jm_of (F := (eL eLine)) (G := Std.eStm) (x := t__law_rooms v_stream_here v_lines v_stands v_counts) ?_
  show JM (eL eLine) Std.eStm ((eL eStand) v_stands) (fb__law_rooms [.io (Std.eStm v_stream_here), .fz ((eL eLine) v_lines), .io ((eL eStand) v_stands), zJ v_counts, .un, .un, .un, .un, .un, .un, .un]) _
  delta fb__law_rooms t__law_rooms
  delta s__law_rooms at h
  exact sqB (ctx := fun (v_found_1 : (List Line)) => [.io (Std.eStm v_stream_here), .fz ((eL eLine) v_lines), .io ((eL eStand) v_stands), zJ v_counts, .ow ((eL eLine) v_found_1), .un, .un, .un, .un, .un, .un]) (sSetO (mlst a0) rfl) h (fun v_found_1 h => sqB (ctx := fun (z15 : (Std.Stm × (List Line))) => [.io (Std.eStm z15.1), .fz ((eL eLine) v_lines), .io ((eL eStand) v_stands), zJ v_counts, .ow ((eL eLine) z15.2), .un, .un, .un, .un, .un, .un]) (S := fun _ => True) (forN (F := (eT2 D.int eLine)) (ctx := fun (z2 : (Std.Stm × (List Line))) => [.io (Std.eStm z2.1), .fz ((eL eLine) v_lines), .io ((eL eStand) v_stands), zJ v_counts, .ow ((eL eLine) z2.2), .un, .un, .un, .un, .un, .un]) (i_enum (F := eLine) (a1 (vf 1 rfl) a0)) h (fun z2 xv3 h => ⟨_, rfl, sqB (ctx := fun (v_begins_7 : Int) => [.io (Std.eStm z2.1), .fz ((eL eLine) v_lines), .io ((eL eStand) v_stands), zJ v_counts, .ow ((eL eLine) z2.2), zI xv3.1, .fz (eLine xv3.2), zI v_begins_7, .un, .un, .un]) (sSet (mof (t_hidE (d := (eL eLine) z2.2) rfl (t_th (s := .io ((eL eStand) v_stands)) rfl rfl (c1 (a1 (mfz (lcP (F := (eT2 D.int eStand)) (G := D.int) (p := fun (xv4 : (Int × Stand)) => (decide (xv4.2.1 = xv3.1))) (φ := fun (xv4 : (Int × Stand)) => xv4.1) (ρ1 := [.io (Std.eStm z2.1), .fz ((eL eLine) v_lines), .fz ((eL eStand) v_stands), zJ v_counts, .un, zI xv3.1, .fz (eLine xv3.2), .un, .un, .un, .un]) (i_zip (F := D.int) (G := eStand) (a1 (vf 3 rfl) (a1 (vf 2 rfl) a0))) rfl (fun xv4 hx5 => ⟨_, rfl, tst (b2 (b2 (vf 10 rfl) rfl rfl) (vf 5 rfl) dEq_i), rfl, fun hc6 => ⟨_, vf 9 rfl, rfl⟩⟩) h.1 rfl)) a0) o_sum) ⟨rfl, .inl rfl, trivial, .inl rfl, trivial, .inl rfl, .inl rfl, trivial, trivial, trivial, trivial, trivial⟩ rfl rfl) rfl)) rfl) h.2 (fun v_begins_7 h => sqB (ctx := fun (z13 : (Std.Stm × Line)) => [.io (Std.eStm z13.1), .fz ((eL eLine) v_lines), .io ((eL eStand) v_stands), zJ v_counts, .ow ((eL eLine) z2.2), zI xv3.1, .fz (eLine z13.2), zI v_begins_7, .un, .un, .un]) (ifJ (ctx := fun (z12 : (Std.Stm × Line)) => [.io (Std.eStm z12.1), .fz ((eL eLine) v_lines), .io ((eL eStand) v_stands), zJ v_counts, .ow ((eL eLine) z2.2), zI xv3.1, .fz (eLine z12.2), zI v_begins_7, .un, .un, .un]) (v := bd ((Std.t__law_take ((Std.t__law_take z2.1 ((2 : Int))).2) ((4 : Int))).2, (min ((9 : Int)) (((max ((1 : Int)) v_begins_7) + (Std.t__law_take ((Std.t__law_take z2.1 ((2 : Int))).2) ((4 : Int))).1)))) (fun (z10 : (Std.Stm × Int)) => bd ((Std.t__law_take z10.1 ((2 : Int))).2, (xv3.2.1, xv3.2.2.1, z10.2, (ix (([("stay" : Str), ("skip" : Str)] : List Str)) ((Std.t__law_take z10.1 ((2 : Int))).1)))) (fun (z11 : (Std.Stm × Line)) => (z11.1, z11.2)))) (w := ((Std.t__law_take z2.1 ((2 : Int))).2, xv3.2)) (tst (b2 (mfz (cN (x1s (i := 0) rfl rfl (x1 rfl x0)) rfl rfl (Std.e__law_take (s := z2.1) (most := (2 : Int)) (show 0 < ((2 : Int)) by decide) :) rfl)) rfl dEq_i)) (fun hc => (bdh (h.1 hc) (fun h => jnE (ctx := fun (z12 : (Std.Stm × Line)) => [.io (Std.eStm z12.1), .fz ((eL eLine) v_lines), .io ((eL eStand) v_stands), zJ v_counts, .ow ((eL eLine) z2.2), zI xv3.1, .fz (eLine z12.2), zI v_begins_7, .un, .un, .un]) (s := bd ((Std.t__law_take ((Std.t__law_take z2.1 ((2 : Int))).2) ((4 : Int))).2, (min ((9 : Int)) (((max ((1 : Int)) v_begins_7) + (Std.t__law_take ((Std.t__law_take z2.1 ((2 : Int))).2) ((4 : Int))).1)))) (fun (z10 : (Std.Stm × Int)) => bd ((Std.t__law_take z10.1 ((2 : Int))).2, (xv3.2.1, xv3.2.2.1, z10.2, (ix (([("stay" : Str), ("skip" : Str)] : List Str)) ((Std.t__law_take z10.1 ((2 : Int))).1)))) (fun (z11 : (Std.Stm × Line)) => (z11.1, z11.2)))) (sqB (ctx := fun (z10 : (Std.Stm × Int)) => [.io (Std.eStm z10.1), .fz ((eL eLine) v_lines), .io ((eL eStand) v_stands), zJ v_counts, .ow ((eL eLine) z2.2), zI xv3.1, .fz (eLine xv3.2), zI v_begins_7, zI z10.2, .un, .un]) (sSet (mof (c1 (a1 rfl (a1 (b2 (c1 (a1 rfl (a1 (vf 7 rfl) a0)) o_max2) (mfz (cN (x1s (i := 0) rfl rfl (x1 rfl x0)) rfl rfl (Std.e__law_take (s := (Std.t__law_take z2.1 ((2 : Int))).2) (most := (4 : Int)) (show 0 < ((4 : Int)) by decide) :) rfl)) rfl) a0)) o_min2)) rfl) h (fun z10 h => sqB (ctx := fun (z11 : (Std.Stm × Line)) => [.io (Std.eStm z11.1), .fz ((eL eLine) v_lines), .io ((eL eStand) v_stands), zJ v_counts, .ow ((eL eLine) z2.2), zI xv3.1, .fz (eLine z11.2), zI v_begins_7, zI z10.2, .un, .un]) (S := fun _ => True) (sSet (mof (mtup (a1 (b2 (vf 6 rfl) rfl rfl) (a1 (b2 (vf 6 rfl) rfl rfl) (a1 (vf 8 rfl) (a1 (b2 (mfz (mlst (a1 rfl (a1 rfl a0)))) (mfz (cN (x1s (i := 0) rfl rfl (x1 rfl x0)) rfl rfl (Std.e__law_take (s := z10.1) (most := (2 : Int)) (show 0 < ((2 : Int)) by decide) :) rfl)) (o_ixL (F := D.str) (xs := ([("stay" : Str), ("skip" : Str)] : List Str)) h)) a0)))))) rfl) trivial (fun z11 _ => sq (sKill (show _ = [.io (Std.eStm z11.1), .fz ((eL eLine) v_lines), .io ((eL eStand) v_stands), zJ v_counts, .ow ((eL eLine) z2.2), zI xv3.1, .fz (eLine z11.2), zI v_begins_7, .un, .un, .un] from rfl)) rfl)))))) (fun _ => jnE (ctx := fun (z12 : (Std.Stm × Line)) => [.io (Std.eStm z12.1), .fz ((eL eLine) v_lines), .io ((eL eStand) v_stands), zJ v_counts, .ow ((eL eLine) z2.2), zI xv3.1, .fz (eLine z12.2), zI v_begins_7, .un, .un, .un]) (s := ((Std.t__law_take z2.1 ((2 : Int))).2, xv3.2)) rfl)) h.2 (fun z13 h => sqB (ctx := fun (v_found_14 : (List Line)) => [.io (Std.eStm z13.1), .fz ((eL eLine) v_lines), .io ((eL eStand) v_stands), zJ v_counts, .ow ((eL eLine) v_found_14), zI xv3.1, .fz (eLine z13.2), zI v_begins_7, .un, .un, .un]) (S := fun _ => True) (sApp (i := 4) (F := eLine) (xs := z2.2) (v := z13.2) (vf 6 rfl) ⟨_, rfl⟩ rfl h rfl) trivial (fun v_found_14 _ => sq (sKill (show _ = [.io (Std.eStm z13.1), .fz ((eL eLine) v_lines), .io ((eL eStand) v_stands), zJ v_counts, .ow ((eL eLine) v_found_14), .un, .un, .un, .un, .un, .un] from rfl)) rfl)))⟩)) trivial (fun z15 _ => sRet (mv_ow (i := 4) rfl) (jm_mk rfl rfl rfl)))
noncomputable def fb__law_drawn : M Fl :=
  mSeq (mSet 1 (mOf (mBin dIx (mFz (mLst (mCons (M.pure (.str "wide")) (mCons (M.pure (.str "tight")) (mCons (M.pure (.str "shut")) mNil))))) (mFz (mCallN 2 (some 0) Std.fn__law_take (xS 0 (xV (M.pure (.int 3)) xNil)))))))
    (mSeq (mSet 2 (mOf (mBin dAdd (M.pure (.int 1)) (mFz (mCallN 2 (some 0) Std.fn__law_take (xS 0 (xV (M.pure (.int 8)) xNil)))))))
    (mSeq (mSet 3 (mOf (mBin dAdd (mFz (mListRg1 (mVar 2))) (mFz (mLc [8] (mRange1 (mCons (mFz (mCallN 2 (some 0) Std.fn__law_take (xS 0 (xV (mBin dSub (M.pure (.int 13)) (mVar 2)) xNil)))) mNil)) (gN 8) (M.pure true) (mFz (mCallN 2 (some 0) Std.fn__law_take (xS 0 (xV (mVar 2) xNil)))))))))
    (mSeq (mSet 4 (mLc [8] (mRange1 (mCons (mVar 2) mNil)) (gN 8) (M.pure true) (mFz (mCallN 2 (some 0) fn__law_line (xS 0 (xV (mVar 1) xNil))))))
    (mSeq (mSet 5 (mLc [9] (mIter (mFz (mRevL (mVar 3)))) (gN 9) (M.pure true) (mTup (mCons (mVar 9) (mCons (mFz (mCallN 1 (some 0) fn__law_some (xS 0 xNil))) (mCons (mFz (mCallN 3 (some 0) fn__law_ways (xS 0 (xV (mCall dLen (mCons (mVar 3) mNil)) (xV (mBin dEq (mVar 1) (M.pure (.str "shut"))) xNil))))) mNil))))))
    (mSeq (mIf (mTest (mBin dEq (mVar 1) (M.pure (.str "shut")))) (mSeq (mSet 7 (mRepO (mFz (mLst (mCons (M.pure (.int 0)) mNil))) (mLenL 5)))
    (mSeq (mFor (mRange1 (mCons (mBin dAdd (M.pure (.int 1)) (mFz (mCallN 2 (some 0) Std.fn__law_take (xS 0 (xV (M.pure (.int 8)) xNil))))) mNil)) (gN 8) (mSeq (mAugAt 7 (fun i j => i + j) (mFz (mCallN 2 (some 0) Std.fn__law_take (xS 0 (xV (mLenL 5) xNil)))) (M.pure (.int 1)))
    (mSeq (mKill [8]) mNx)))
    (mSeq (mFrz 7)
    (mSeq (mFrz 4)
    (mRet (mTupO (oW (mRom 0 4 5 7 (RmR fb__law_rooms)) (oS 5 (oF (mTup (mCons (M.pure (.str "shut")) (mCons (mVar 7) mNil))) oNil))))))))) mNx)
    (mSeq (mSet 6 (mLc [9] (mIter (mVar 3)) (gN 9) (M.pure true) (mIf (mTest (mBin dEq (mFz (mCallN 2 (some 0) Std.fn__law_take (xS 0 (xV (M.pure (.int 2)) xNil)))) (M.pure (.int 0)))) (mTup (mCons (M.pure (.int 0)) (mCons (M.pure (.int 1)) mNil))) (mFz (mCallN 1 (some 0) fn__law_some (xS 0 xNil))))))
    (mSeq (mPutAt 6 (mFz (mCallN 1 (some 0) fn__law_some (xS 0 xNil))) (mFz (mCallN 2 (some 0) Std.fn__law_take (xS 0 (xV (mCall dLen (mCons (mVar 3) mNil)) xNil)))))
    (mSeq (mFrz 6)
    (mRet (mTupO (oS 4 (oS 5 (oF (mTup (mCons (M.pure (.str "open")) (mCons (mVar 6) mNil))) oNil)))))))))))))
noncomputable def fn__law_drawn : List D → Rf := runF (some 0) 10 fb__law_drawn
noncomputable def t__law_drawn (v_stream_here : Std.Stm) : (Net × Std.Stm) :=
  bd ((Std.t__law_take v_stream_here ((3 : Int))).2, (ix (([("wide" : Str), ("tight" : Str), ("shut" : Str)] : List Str)) ((Std.t__law_take v_stream_here ((3 : Int))).1))) (fun (z1 : (Std.Stm × Str)) => bd ((Std.t__law_take z1.1 ((8 : Int))).2, ((1 : Int) + (Std.t__law_take z1.1 ((8 : Int))).1)) (fun (z2 : (Std.Stm × Int)) => bd ((lcS (fun (xv3 : Int) (s4 : Std.Stm) => (true, s4)) (fun (xv3 : Int) (s4 : Std.Stm) => ((Std.t__law_take s4 z2.2).1, (Std.t__law_take s4 z2.2).2)) (rangeI 0 ((Std.t__law_take z2.1 (((13 : Int) - z2.2))).1)) ((Std.t__law_take z2.1 (((13 : Int) - z2.2))).2)).2, ((rangeI 0 z2.2) ++ (lcS (fun (xv3 : Int) (s4 : Std.Stm) => (true, s4)) (fun (xv3 : Int) (s4 : Std.Stm) => ((Std.t__law_take s4 z2.2).1, (Std.t__law_take s4 z2.2).2)) (rangeI 0 ((Std.t__law_take z2.1 (((13 : Int) - z2.2))).1)) ((Std.t__law_take z2.1 (((13 : Int) - z2.2))).2)).1)) (fun (z7 : (Std.Stm × (List Int))) => bd ((lcS (fun (xv8 : Int) (s9 : Std.Stm) => (true, s9)) (fun (xv8 : Int) (s9 : Std.Stm) => ((t__law_line s9 z1.2).1, (t__law_line s9 z1.2).2)) (rangeI 0 z2.2) z7.1).2, (lcS (fun (xv8 : Int) (s9 : Std.Stm) => (true, s9)) (fun (xv8 : Int) (s9 : Std.Stm) => ((t__law_line s9 z1.2).1, (t__law_line s9 z1.2).2)) (rangeI 0 z2.2) z7.1).1) (fun (z12 : (Std.Stm × (List Line))) => bd ((lcS (fun (xv13 : Int) (s14 : Std.Stm) => (true, s14)) (fun (xv13 : Int) (s14 : Std.Stm) => ((xv13, (t__law_some s14).1, (t__law_ways ((t__law_some s14).2) ((z7.2.length : Int)) ((decide (z1.2 = ("shut" : Str))))).1), (t__law_ways ((t__law_some s14).2) ((z7.2.length : Int)) ((decide (z1.2 = ("shut" : Str))))).2)) z7.2.reverse z12.1).2, (lcS (fun (xv13 : Int) (s14 : Std.Stm) => (true, s14)) (fun (xv13 : Int) (s14 : Std.Stm) => ((xv13, (t__law_some s14).1, (t__law_ways ((t__law_some s14).2) ((z7.2.length : Int)) ((decide (z1.2 = ("shut" : Str))))).1), (t__law_ways ((t__law_some s14).2) ((z7.2.length : Int)) ((decide (z1.2 = ("shut" : Str))))).2)) z7.2.reverse z12.1).1) (fun (z17 : (Std.Stm × (List Stand))) => cond (decide (z1.2 = ("shut" : Str))) (bd (repI (([(0 : Int)] : List Int)) ((z17.2.length : Int))) (fun (v_counts_18 : (List Int)) => bd ((rangeI 0 (((1 : Int) + (Std.t__law_take z17.1 ((8 : Int))).1))).foldl (fun (z19 : (Std.Stm × (List Int))) (xv20 : Int) => bd ((Std.t__law_take z19.1 ((z17.2.length : Int))).2, (setI z19.2 ((Std.t__law_take z19.1 ((z17.2.length : Int))).1) (ix z19.2 ((Std.t__law_take z19.1 ((z17.2.length : Int))).1) + (1 : Int)))) (fun (z21 : (Std.Stm × (List Int))) => (z21.1, z21.2))) ((Std.t__law_take z17.1 ((8 : Int))).2, v_counts_18)) (fun (z22 : (Std.Stm × (List Int))) => (((t__law_rooms z22.1 z12.2 z17.2 z22.2).1, z17.2, (("shut" : Str), (Sum.inr z22.2 : Num))), (t__law_rooms z22.1 z12.2 z17.2 z22.2).2)))) (bd ((lcS (fun (xv23 : Int) (s26 : Std.Stm) => (true, s26)) (fun (xv23 : Int) (s26 : Std.Stm) => ((cond ((decide ((Std.t__law_take s26 ((2 : Int))).1 = (0 : Int)))) ((0 : Rat)) ((t__law_some ((Std.t__law_take s26 ((2 : Int))).2)).1)), (cond ((decide ((Std.t__law_take s26 ((2 : Int))).1 = (0 : Int)))) ((Std.t__law_take s26 ((2 : Int))).2) ((t__law_some ((Std.t__law_take s26 ((2 : Int))).2)).2)))) z7.2 z17.1).2, (lcS (fun (xv23 : Int) (s26 : Std.Stm) => (true, s26)) (fun (xv23 : Int) (s26 : Std.Stm) => ((cond ((decide ((Std.t__law_take s26 ((2 : Int))).1 = (0 : Int)))) ((0 : Rat)) ((t__law_some ((Std.t__law_take s26 ((2 : Int))).2)).1)), (cond ((decide ((Std.t__law_take s26 ((2 : Int))).1 = (0 : Int)))) ((Std.t__law_take s26 ((2 : Int))).2) ((t__law_some ((Std.t__law_take s26 ((2 : Int))).2)).2)))) z7.2 z17.1).1) (fun (z33 : (Std.Stm × (List Rat))) => bd ((Std.t__law_take ((t__law_some z33.1).2) ((z7.2.length : Int))).2, (setI z33.2 ((Std.t__law_take ((t__law_some z33.1).2) ((z7.2.length : Int))).1) ((t__law_some z33.1).1))) (fun (z34 : (Std.Stm × (List Rat))) => ((z12.2, z17.2, (("open" : Str), (Sum.inl z34.2 : Num))), z34.1)))))))))
def s__law_drawn (v_stream_here : Std.Stm) : Prop :=
  ((InB (([("wide" : Str), ("tight" : Str), ("shut" : Str)] : List Str)).length ((Std.t__law_take v_stream_here ((3 : Int))).1)) ∧ (bd ((Std.t__law_take v_stream_here ((3 : Int))).2, (ix (([("wide" : Str), ("tight" : Str), ("shut" : Str)] : List Str)) ((Std.t__law_take v_stream_here ((3 : Int))).1))) (fun (z1 : (Std.Stm × Str)) => bd ((Std.t__law_take z1.1 ((8 : Int))).2, ((1 : Int) + (Std.t__law_take z1.1 ((8 : Int))).1)) (fun (z2 : (Std.Stm × Int)) => ((-10000 < z2.2 ∧ z2.2 < 10000) ∧ (0 < (((13 : Int) - z2.2))) ∧ (-100000000 < ((Std.t__law_take z2.1 (((13 : Int) - z2.2))).1) ∧ ((Std.t__law_take z2.1 (((13 : Int) - z2.2))).1) < 100000000) ∧ (slcS (fun (xv3 : Int) (s4 : Std.Stm) => (true, s4)) (fun (xv3 : Int) (s4 : Std.Stm) => ((Std.t__law_take s4 z2.2).1, (Std.t__law_take s4 z2.2).2)) (fun (xv3 : Int) (s4 : Std.Stm) => ((0 < z2.2))) (rangeI 0 ((Std.t__law_take z2.1 (((13 : Int) - z2.2))).1)) ((Std.t__law_take z2.1 (((13 : Int) - z2.2))).2)) ∧ (((rangeI 0 ((Std.t__law_take z2.1 (((13 : Int) - z2.2))).1))).length ≤ 10000) ∧ (((rangeI 0 z2.2)).length + ((lcS (fun (xv3 : Int) (s4 : Std.Stm) => (true, s4)) (fun (xv3 : Int) (s4 : Std.Stm) => ((Std.t__law_take s4 z2.2).1, (Std.t__law_take s4 z2.2).2)) (rangeI 0 ((Std.t__law_take z2.1 (((13 : Int) - z2.2))).1)) ((Std.t__law_take z2.1 (((13 : Int) - z2.2))).2)).1).length ≤ 10000) ∧ (bd ((lcS (fun (xv3 : Int) (s4 : Std.Stm) => (true, s4)) (fun (xv3 : Int) (s4 : Std.Stm) => ((Std.t__law_take s4 z2.2).1, (Std.t__law_take s4 z2.2).2)) (rangeI 0 ((Std.t__law_take z2.1 (((13 : Int) - z2.2))).1)) ((Std.t__law_take z2.1 (((13 : Int) - z2.2))).2)).2, ((rangeI 0 z2.2) ++ (lcS (fun (xv3 : Int) (s4 : Std.Stm) => (true, s4)) (fun (xv3 : Int) (s4 : Std.Stm) => ((Std.t__law_take s4 z2.2).1, (Std.t__law_take s4 z2.2).2)) (rangeI 0 ((Std.t__law_take z2.1 (((13 : Int) - z2.2))).1)) ((Std.t__law_take z2.1 (((13 : Int) - z2.2))).2)).1)) (fun (z7 : (Std.Stm × (List Int))) => ((-100000000 < z2.2 ∧ z2.2 < 100000000) ∧ (slcS (fun (xv8 : Int) (s9 : Std.Stm) => (true, s9)) (fun (xv8 : Int) (s9 : Std.Stm) => ((t__law_line s9 z1.2).1, (t__law_line s9 z1.2).2)) (fun (xv8 : Int) (s9 : Std.Stm) => ((s__law_line s9 z1.2))) (rangeI 0 z2.2) z7.1) ∧ (((rangeI 0 z2.2)).length ≤ 10000) ∧ (bd ((lcS (fun (xv8 : Int) (s9 : Std.Stm) => (true, s9)) (fun (xv8 : Int) (s9 : Std.Stm) => ((t__law_line s9 z1.2).1, (t__law_line s9 z1.2).2)) (rangeI 0 z2.2) z7.1).2, (lcS (fun (xv8 : Int) (s9 : Std.Stm) => (true, s9)) (fun (xv8 : Int) (s9 : Std.Stm) => ((t__law_line s9 z1.2).1, (t__law_line s9 z1.2).2)) (rangeI 0 z2.2) z7.1).1) (fun (z12 : (Std.Stm × (List Line))) => ((slcS (fun (xv13 : Int) (s14 : Std.Stm) => (true, s14)) (fun (xv13 : Int) (s14 : Std.Stm) => ((xv13, (t__law_some s14).1, (t__law_ways ((t__law_some s14).2) ((z7.2.length : Int)) ((decide (z1.2 = ("shut" : Str))))).1), (t__law_ways ((t__law_some s14).2) ((z7.2.length : Int)) ((decide (z1.2 = ("shut" : Str))))).2)) (fun (xv13 : Int) (s14 : Std.Stm) => (((s__law_some s14) ∧ (s__law_ways ((t__law_some s14).2) ((z7.2.length : Int)) ((decide (z1.2 = ("shut" : Str)))))))) z7.2.reverse z12.1) ∧ (z7.2.reverse.length ≤ 10000) ∧ (bd ((lcS (fun (xv13 : Int) (s14 : Std.Stm) => (true, s14)) (fun (xv13 : Int) (s14 : Std.Stm) => ((xv13, (t__law_some s14).1, (t__law_ways ((t__law_some s14).2) ((z7.2.length : Int)) ((decide (z1.2 = ("shut" : Str))))).1), (t__law_ways ((t__law_some s14).2) ((z7.2.length : Int)) ((decide (z1.2 = ("shut" : Str))))).2)) z7.2.reverse z12.1).2, (lcS (fun (xv13 : Int) (s14 : Std.Stm) => (true, s14)) (fun (xv13 : Int) (s14 : Std.Stm) => ((xv13, (t__law_some s14).1, (t__law_ways ((t__law_some s14).2) ((z7.2.length : Int)) ((decide (z1.2 = ("shut" : Str))))).1), (t__law_ways ((t__law_some s14).2) ((z7.2.length : Int)) ((decide (z1.2 = ("shut" : Str))))).2)) z7.2.reverse z12.1).1) (fun (z17 : (Std.Stm × (List Stand))) => (((decide (z1.2 = ("shut" : Str))) = true → ((((z17.2.length : Int)) < 10000 ∧ -10000 < ((z17.2.length : Int)) ∧ (([(0 : Int)] : List Int)).length ≤ 1000) ∧ (bd (repI (([(0 : Int)] : List Int)) ((z17.2.length : Int))) (fun (v_counts_18 : (List Int)) => ((-100000000 < (((1 : Int) + (Std.t__law_take z17.1 ((8 : Int))).1)) ∧ (((1 : Int) + (Std.t__law_take z17.1 ((8 : Int))).1)) < 100000000) ∧ (sfl (fun (z19 : (Std.Stm × (List Int))) (xv20 : Int) => bd ((Std.t__law_take z19.1 ((z17.2.length : Int))).2, (setI z19.2 ((Std.t__law_take z19.1 ((z17.2.length : Int))).1) (ix z19.2 ((Std.t__law_take z19.1 ((z17.2.length : Int))).1) + (1 : Int)))) (fun (z21 : (Std.Stm × (List Int))) => (z21.1, z21.2))) (fun (z19 : (Std.Stm × (List Int))) (xv20 : Int) => ((0 < ((z17.2.length : Int))) ∧ (0 ≤ ((Std.t__law_take z19.1 ((z17.2.length : Int))).1) ∧ ((Std.t__law_take z19.1 ((z17.2.length : Int))).1) < z19.2.length) ∧ (z19.2.length ≤ 10000))) (rangeI 0 (((1 : Int) + (Std.t__law_take z17.1 ((8 : Int))).1))) ((Std.t__law_take z17.1 ((8 : Int))).2, v_counts_18)) ∧ (bd ((rangeI 0 (((1 : Int) + (Std.t__law_take z17.1 ((8 : Int))).1))).foldl (fun (z19 : (Std.Stm × (List Int))) (xv20 : Int) => bd ((Std.t__law_take z19.1 ((z17.2.length : Int))).2, (setI z19.2 ((Std.t__law_take z19.1 ((z17.2.length : Int))).1) (ix z19.2 ((Std.t__law_take z19.1 ((z17.2.length : Int))).1) + (1 : Int)))) (fun (z21 : (Std.Stm × (List Int))) => (z21.1, z21.2))) ((Std.t__law_take z17.1 ((8 : Int))).2, v_counts_18)) (fun (z22 : (Std.Stm × (List Int))) => (s__law_rooms z22.1 z12.2 z17.2 z22.2)))))))) ∧ ((decide (z1.2 = ("shut" : Str))) = false → ((slcS (fun (xv23 : Int) (s26 : Std.Stm) => (true, s26)) (fun (xv23 : Int) (s26 : Std.Stm) => ((cond ((decide ((Std.t__law_take s26 ((2 : Int))).1 = (0 : Int)))) ((0 : Rat)) ((t__law_some ((Std.t__law_take s26 ((2 : Int))).2)).1)), (cond ((decide ((Std.t__law_take s26 ((2 : Int))).1 = (0 : Int)))) ((Std.t__law_take s26 ((2 : Int))).2) ((t__law_some ((Std.t__law_take s26 ((2 : Int))).2)).2)))) (fun (xv23 : Int) (s26 : Std.Stm) => (((decide ((Std.t__law_take s26 ((2 : Int))).1 = (0 : Int))) = false → (s__law_some ((Std.t__law_take s26 ((2 : Int))).2))))) z7.2 z17.1) ∧ (z7.2.length ≤ 10000) ∧ (bd ((lcS (fun (xv23 : Int) (s26 : Std.Stm) => (true, s26)) (fun (xv23 : Int) (s26 : Std.Stm) => ((cond ((decide ((Std.t__law_take s26 ((2 : Int))).1 = (0 : Int)))) ((0 : Rat)) ((t__law_some ((Std.t__law_take s26 ((2 : Int))).2)).1)), (cond ((decide ((Std.t__law_take s26 ((2 : Int))).1 = (0 : Int)))) ((Std.t__law_take s26 ((2 : Int))).2) ((t__law_some ((Std.t__law_take s26 ((2 : Int))).2)).2)))) z7.2 z17.1).2, (lcS (fun (xv23 : Int) (s26 : Std.Stm) => (true, s26)) (fun (xv23 : Int) (s26 : Std.Stm) => ((cond ((decide ((Std.t__law_take s26 ((2 : Int))).1 = (0 : Int)))) ((0 : Rat)) ((t__law_some ((Std.t__law_take s26 ((2 : Int))).2)).1)), (cond ((decide ((Std.t__law_take s26 ((2 : Int))).1 = (0 : Int)))) ((Std.t__law_take s26 ((2 : Int))).2) ((t__law_some ((Std.t__law_take s26 ((2 : Int))).2)).2)))) z7.2 z17.1).1) (fun (z33 : (Std.Stm × (List Rat))) => ((s__law_some z33.1) ∧ (0 < ((z7.2.length : Int))) ∧ (InB z33.2.length ((Std.t__law_take ((t__law_some z33.1).2) ((z7.2.length : Int))).1)))))))))))))))))))))
theorem e__law_drawn {v_stream_here : Std.Stm} (h : s__law_drawn v_stream_here) : fn__law_drawn [Std.eStm v_stream_here] = .ok (eNet (t__law_drawn v_stream_here).1) (.dp mkH) (Std.eStm (t__law_drawn v_stream_here).2) := by
  refine runI (F := eNet) (G := Std.eStm) (o := .dp mkH) (fb := fb__law_drawn) (x := t__law_drawn v_stream_here) ?_
  show JI 0 eNet Std.eStm (.dp mkH) (fb__law_drawn [.io (Std.eStm v_stream_here), .un, .un, .un, .un, .un, .un, .un, .un, .un]) _
  delta fb__law_drawn t__law_drawn
  delta s__law_drawn at h
  exact sqB (ctx := fun (z1 : (Std.Stm × Str)) => [.io (Std.eStm z1.1), .fz (D.str z1.2), .un, .un, .un, .un, .un, .un, .un, .un]) (sSet (mof (b2 (mfz (mlst (a1 rfl (a1 rfl (a1 rfl a0))))) (mfz (cN (x1s (i := 0) rfl rfl (x1 rfl x0)) rfl rfl (Std.e__law_take (s := v_stream_here) (most := (3 : Int)) (show 0 < ((3 : Int)) by decide) :) rfl)) (o_ixL (F := D.str) (xs := ([("wide" : Str), ("tight" : Str), ("shut" : Str)] : List Str)) h.1))) rfl) h.2 (fun z1 h => sqB (ctx := fun (z2 : (Std.Stm × Int)) => [.io (Std.eStm z2.1), .fz (D.str z1.2), zI z2.2, .un, .un, .un, .un, .un, .un, .un]) (sSet (mof (b2 rfl (mfz (cN (x1s (i := 0) rfl rfl (x1 rfl x0)) rfl rfl (Std.e__law_take (s := z1.1) (most := (8 : Int)) (show 0 < ((8 : Int)) by decide) :) rfl)) rfl)) rfl) h (fun z2 h => sqB (ctx := fun (z7 : (Std.Stm × (List Int))) => [.io (Std.eStm z7.1), .fz (D.str z1.2), zI z2.2, zJ z7.2, .un, .un, .un, .un, .un, .un]) (sSet (mof (b2 (mfz (lrg1 (vf 2 rfl) h.1)) (mfz (lcSt (F := D.int) (G := D.int) (p := (fun (xv3 : Int) (s4 : Std.Stm) => (true, s4))) (φ := (fun (xv3 : Int) (s4 : Std.Stm) => ((Std.t__law_take s4 z2.2).1, (Std.t__law_take s4 z2.2).2))) (S := (fun (xv3 : Int) (s4 : Std.Stm) => ((0 < z2.2)))) (ctx := fun s_ => [.io (Std.eStm s_), .fz (D.str z1.2), zI z2.2, .un, .un, .un, .un, .un, .un, .un]) (ctx9 := fun s_ => [.io (Std.eStm s_), .fz (D.str z1.2), zI z2.2, .un, .un, .un, .un, .un, .un, .un]) (s := (Std.t__law_take z2.1 (((13 : Int) - z2.2))).2) (i_r1 (a1 (mfz (cN (x1s (i := 0) rfl rfl (x1 (b2 rfl (vf 2 rfl) rfl) x0)) rfl rfl (Std.e__law_take (s := z2.1) (most := ((13 : Int) - z2.2)) h.2.1 :) rfl)) a0) h.2.2.1) rfl h.2.2.2.1 (fun xv3 s4 hs5 => ⟨fun s_ => [.io (Std.eStm s_), .fz (D.str z1.2), zI z2.2, .un, .un, .un, .un, .un, zI xv3, .un], rfl, rfl, fun _ => rfl, fun hc6 => mfz (cN (x1s (i := 0) rfl rfl (x1 (vf 2 rfl) x0)) rfl rfl (Std.e__law_take (s := s4) (most := z2.2) hs5 :) rfl)⟩) h.2.2.2.2.1 (fun _ => rfl))) (o_addL (F := D.int) (xs := (rangeI 0 z2.2)) (ys := (lcS (fun (xv3 : Int) (s4 : Std.Stm) => (true, s4)) (fun (xv3 : Int) (s4 : Std.Stm) => ((Std.t__law_take s4 z2.2).1, (Std.t__law_take s4 z2.2).2)) (rangeI 0 ((Std.t__law_take z2.1 (((13 : Int) - z2.2))).1)) ((Std.t__law_take z2.1 (((13 : Int) - z2.2))).2)).1) h.2.2.2.2.2.1))) rfl) h.2.2.2.2.2.2 (fun z7 h => sqB (ctx := fun (z12 : (Std.Stm × (List Line))) => [.io (Std.eStm z12.1), .fz (D.str z1.2), zI z2.2, zJ z7.2, .ow ((eL eLine) z12.2), .un, .un, .un, .un, .un]) (sSetO (lcSt (F := D.int) (G := eLine) (p := (fun (xv8 : Int) (s9 : Std.Stm) => (true, s9))) (φ := (fun (xv8 : Int) (s9 : Std.Stm) => ((t__law_line s9 z1.2).1, (t__law_line s9 z1.2).2))) (S := (fun (xv8 : Int) (s9 : Std.Stm) => ((s__law_line s9 z1.2)))) (ctx := fun s_ => [.io (Std.eStm s_), .fz (D.str z1.2), zI z2.2, zJ z7.2, .un, .un, .un, .un, .un, .un]) (ctx9 := fun s_ => [.io (Std.eStm s_), .fz (D.str z1.2), zI z2.2, zJ z7.2, .un, .un, .un, .un, .un, .un]) (s := z7.1) (i_r1 (a1 (vf 2 rfl) a0) h.1) rfl h.2.1 (fun xv8 s9 hs10 => ⟨fun s_ => [.io (Std.eStm s_), .fz (D.str z1.2), zI z2.2, zJ z7.2, .un, .un, .un, .un, zI xv8, .un], rfl, rfl, fun _ => rfl, fun hc11 => mfz (cN (x1s (i := 0) rfl rfl (x1 (vf 1 rfl) x0)) rfl rfl (e__law_line (v_stream_here := s9) (v_kind := z1.2) hs10 :) rfl)⟩) h.2.2.1 (fun _ => rfl)) rfl) h.2.2.2 (fun z12 h => sqB (ctx := fun (z17 : (Std.Stm × (List Stand))) => [.io (Std.eStm z17.1), .fz (D.str z1.2), zI z2.2, zJ z7.2, .ow ((eL eLine) z12.2), .ow ((eL eStand) z17.2), .un, .un, .un, .un]) (sSetO (lcSt (F := D.int) (G := eStand) (p := (fun (xv13 : Int) (s14 : Std.Stm) => (true, s14))) (φ := (fun (xv13 : Int) (s14 : Std.Stm) => ((xv13, (t__law_some s14).1, (t__law_ways ((t__law_some s14).2) ((z7.2.length : Int)) ((decide (z1.2 = ("shut" : Str))))).1), (t__law_ways ((t__law_some s14).2) ((z7.2.length : Int)) ((decide (z1.2 = ("shut" : Str))))).2))) (S := (fun (xv13 : Int) (s14 : Std.Stm) => (((s__law_some s14) ∧ (s__law_ways ((t__law_some s14).2) ((z7.2.length : Int)) ((decide (z1.2 = ("shut" : Str))))))))) (ctx := fun s_ => [.io (Std.eStm s_), .fz (D.str z1.2), zI z2.2, zJ z7.2, .ow ((eL eLine) z12.2), .un, .un, .un, .un, .un]) (ctx9 := fun s_ => [.io (Std.eStm s_), .fz (D.str z1.2), zI z2.2, zJ z7.2, .ow ((eL eLine) z12.2), .un, .un, .un, .un, .un]) (s := z12.1) (i_L (F := D.int) (mfz (revL (F := D.int) (vf 3 rfl)))) rfl h.1 (fun xv13 s14 hs15 => ⟨fun s_ => [.io (Std.eStm s_), .fz (D.str z1.2), zI z2.2, zJ z7.2, .ow ((eL eLine) z12.2), .un, .un, .un, .un, zI xv13], rfl, rfl, fun _ => rfl, fun hc16 => mtup (a1 (vf 9 rfl) (a1 (mfz (cN (x1s (i := 0) rfl rfl x0) rfl rfl (e__law_some (v_stream_here := s14) hs15.1 :) rfl)) (a1 (mfz (cN (x1s (i := 0) rfl rfl (x1 (c1 (a1 (vf 3 rfl) a0) (o_lenL (F := D.int))) (x1 (b2 (vf 1 rfl) rfl dEq_s) x0))) rfl rfl (e__law_ways (v_stream_here := (t__law_some s14).2) (v_stands := (z7.2.length : Int)) (v_all_stay := (decide (z1.2 = ("shut" : Str)))) hs15.2 :) rfl)) a0)))⟩) h.2.1 (fun _ => rfl)) rfl) h.2.2 (fun z17 h => sqIf (tst (b2 (vf 1 rfl) rfl dEq_s)) (fun hc => bdh (h.1 hc) (fun h => sAss (sqB (ctx := fun (v_counts_18 : (List Int)) => [.io (Std.eStm z17.1), .fz (D.str z1.2), zI z2.2, zJ z7.2, .ow ((eL eLine) z12.2), .ow ((eL eStand) z17.2), .un, .ow ((eL D.int) v_counts_18), .un, .un]) (sSetO (repO (F := D.int) (xs := ([(0 : Int)] : List Int)) (mfz (mlst (a1 rfl a0))) (lnL (i := 5) (F := eStand) rfl) h.1) rfl) h.2 (fun v_counts_18 h => sAss (sqB (ctx := fun (z22 : (Std.Stm × (List Int))) => [.io (Std.eStm z22.1), .fz (D.str z1.2), zI z2.2, zJ z7.2, .ow ((eL eLine) z12.2), .ow ((eL eStand) z17.2), .un, .ow ((eL D.int) z22.2), .un, .un]) (forN (F := D.int) (ctx := fun (z19 : (Std.Stm × (List Int))) => [.io (Std.eStm z19.1), .fz (D.str z1.2), zI z2.2, zJ z7.2, .ow ((eL eLine) z12.2), .ow ((eL eStand) z17.2), .un, .ow ((eL D.int) z19.2), .un, .un]) (i_r1 (a1 (b2 rfl (mfz (cN (x1s (i := 0) rfl rfl (x1 rfl x0)) rfl rfl (Std.e__law_take (s := z17.1) (most := (8 : Int)) (show 0 < ((8 : Int)) by decide) :) rfl)) rfl) a0) h.1) h.2.1 (fun z19 xv20 h => ⟨_, rfl, sqB (ctx := fun (z21 : (Std.Stm × (List Int))) => [.io (Std.eStm z21.1), .fz (D.str z1.2), zI z2.2, zJ z7.2, .ow ((eL eLine) z12.2), .ow ((eL eStand) z17.2), .un, .ow ((eL D.int) z21.2), zI xv20, .un]) (S := fun _ => True) (sAugAt (i := 7) (ns := z19.2) ⟨_, rfl⟩ (mfz (cN (x1s (i := 0) rfl rfl (x1 (lnL (i := 5) (F := eStand) rfl) x0)) rfl rfl (Std.e__law_take (s := z19.1) (most := (z17.2.length : Int)) h.1 :) rfl)) rfl rfl rfl h.2.1 h.2.2 rfl) trivial (fun z21 _ => sq (sKill (show _ = [.io (Std.eStm z21.1), .fz (D.str z1.2), zI z2.2, zJ z7.2, .ow ((eL eLine) z12.2), .ow ((eL eStand) z17.2), .un, .ow ((eL D.int) z21.2), .un, .un] from rfl)) rfl)⟩)) h.2.2 (fun z22 h => sAss (sq (sFrz (i := 7) rfl (show _ = [.io (Std.eStm z22.1), .fz (D.str z1.2), zI z2.2, zJ z7.2, .ow ((eL eLine) z12.2), .ow ((eL eStand) z17.2), .un, zJ z22.2, .un, .un] from rfl)) (sAss (sq (sFrz (i := 4) rfl (show _ = [.io (Std.eStm z22.1), .fz (D.str z1.2), zI z2.2, zJ z7.2, .fz ((eL eLine) z12.2), .ow ((eL eStand) z17.2), .un, zJ z22.2, .un, .un] from rfl)) (sqRet (mtupO (oW1 (mRom_ok rfl rfl rfl rfl (e__law_rooms (v_stream_here := z22.1) (v_lines := z12.2) (v_stands := z17.2) (v_counts := z22.2) h) (show _ = [.io (Std.eStm (t__law_rooms z22.1 z12.2 z17.2 z22.2).2), .fz (D.str z1.2), zI z2.2, zJ z7.2, .fz ((eL eLine) z12.2), .ow ((eL eStand) z17.2), .un, zJ z22.2, .un, .un] from rfl)) rfl (oS1 (s := .ow ((eL eStand) z17.2)) (ds := z17.2.map eStand) rfl rfl (oF1 (mtup (a1 rfl (a1 (vf 7 rfl) a0))) o0) rfl rfl))) (ji_mk rfl rfl))))))))))) (fun hc => bdh (h.2 hc) (fun h => sq rfl (sqB (ctx := fun (z33 : (Std.Stm × (List Rat))) => [.io (Std.eStm z33.1), .fz (D.str z1.2), zI z2.2, zJ z7.2, .ow ((eL eLine) z12.2), .ow ((eL eStand) z17.2), .ow ((eL fq) z33.2), .un, .un, .un]) (sSetO (lcSt (F := D.int) (G := fq) (p := (fun (xv23 : Int) (s26 : Std.Stm) => (true, s26))) (φ := (fun (xv23 : Int) (s26 : Std.Stm) => ((cond ((decide ((Std.t__law_take s26 ((2 : Int))).1 = (0 : Int)))) ((0 : Rat)) ((t__law_some ((Std.t__law_take s26 ((2 : Int))).2)).1)), (cond ((decide ((Std.t__law_take s26 ((2 : Int))).1 = (0 : Int)))) ((Std.t__law_take s26 ((2 : Int))).2) ((t__law_some ((Std.t__law_take s26 ((2 : Int))).2)).2))))) (S := (fun (xv23 : Int) (s26 : Std.Stm) => (((decide ((Std.t__law_take s26 ((2 : Int))).1 = (0 : Int))) = false → (s__law_some ((Std.t__law_take s26 ((2 : Int))).2)))))) (ctx := fun s_ => [.io (Std.eStm s_), .fz (D.str z1.2), zI z2.2, zJ z7.2, .ow ((eL eLine) z12.2), .ow ((eL eStand) z17.2), .un, .un, .un, .un]) (ctx9 := fun s_ => [.io (Std.eStm s_), .fz (D.str z1.2), zI z2.2, zJ z7.2, .ow ((eL eLine) z12.2), .ow ((eL eStand) z17.2), .un, .un, .un, .un]) (s := z17.1) (i_L (F := D.int) (vf 3 rfl)) rfl h.1 (fun xv23 s26 hs31 => ⟨fun s_ => [.io (Std.eStm s_), .fz (D.str z1.2), zI z2.2, zJ z7.2, .ow ((eL eLine) z12.2), .ow ((eL eStand) z17.2), .un, .un, .un, zI xv23], rfl, rfl, fun _ => rfl, fun hc32 => ifeS (F := fq) (v := (0 : Rat)) (w := (t__law_some ((Std.t__law_take s26 ((2 : Int))).2)).1) (ctx := fun z28 => [.io (Std.eStm z28), .fz (D.str z1.2), zI z2.2, zJ z7.2, .ow ((eL eLine) z12.2), .ow ((eL eStand) z17.2), .un, .un, .un, zI xv23]) (s1 := (Std.t__law_take s26 ((2 : Int))).2) (s2 := (t__law_some ((Std.t__law_take s26 ((2 : Int))).2)).2) (tst (b2 (mfz (cN (x1s (i := 0) rfl rfl (x1 rfl x0)) rfl rfl (Std.e__law_take (s := s26) (most := (2 : Int)) (show 0 < ((2 : Int)) by decide) :) rfl)) rfl dEq_i)) (fun hc27 => mtup (a1 rfl (a1 rfl a0))) (fun hc27 => mfz (cN (x1s (i := 0) rfl rfl x0) rfl rfl (e__law_some (v_stream_here := (Std.t__law_take s26 ((2 : Int))).2) (hs31 hc27) :) rfl))⟩) h.2.1 (fun _ => rfl)) rfl) h.2.2 (fun z33 h => sqB (ctx := fun (z34 : (Std.Stm × (List Rat))) => [.io (Std.eStm z34.1), .fz (D.str z1.2), zI z2.2, zJ z7.2, .ow ((eL eLine) z12.2), .ow ((eL eStand) z17.2), .ow ((eL fq) z34.2), .un, .un, .un]) (S := fun _ => True) (sPutO (i := 6) (F := fq) (xs := z33.2) (v := (t__law_some z33.1).1) (mfz (cN (x1s (i := 0) rfl rfl x0) rfl rfl (e__law_some (v_stream_here := z33.1) h.1 :) rfl)) (mfz (cN (x1s (i := 0) rfl rfl (x1 (c1 (a1 (vf 3 rfl) a0) (o_lenL (F := D.int))) x0)) rfl rfl (Std.e__law_take (s := (t__law_some z33.1).2) (most := (z7.2.length : Int)) h.2.1 :) rfl)) rfl rfl h.2.2 rfl) trivial (fun z34 _ => sq (sFrz (i := 6) rfl (show _ = [.io (Std.eStm z34.1), .fz (D.str z1.2), zI z2.2, zJ z7.2, .ow ((eL eLine) z12.2), .ow ((eL eStand) z17.2), zL z34.2, .un, .un, .un] from rfl)) (sRet (mtupO (oS1 (s := .ow ((eL eLine) z12.2)) (ds := z12.2.map eLine) rfl rfl (oS1 (s := .ow ((eL eStand) z17.2)) (ds := z17.2.map eStand) rfl rfl (oF1 (mtup (a1 rfl (a1 (vf 6 rfl) a0))) o0) rfl rfl) rfl rfl)) (ji_mk rfl rfl))))))))))))
end K03
namespace K03
open PySem PySem.Spec L2 Dt
noncomputable def fb__law_deep__o : M Fl :=
  mSeq (mSet 3 (mLcD [4, 5, 6, 7] mkL (mIter (mVar 0)) (gT 4 (gsC (Dt.gN 4) (gsC (Dt.gN 5) (gsC (Dt.gN 6) (gsC (Dt.gN 7) gsN))))) (M.pure true) (mTupO (oW (mListOf (mCons (mVar 4) mNil)) (oF (mVar 5) (oF (mVar 6) (oF (mVar 7) oNil)))))))
    (mRet (mTupO (oS 3 (oW (mLcD [8, 9, 10] mkS (mIter (mVar 1)) (gT 3 (gsC (Dt.gN 8) (gsC (Dt.gN 9) (gsC (Dt.gN 10) gsN)))) (M.pure true) (mTupO (oF (mVar 8) (oF (mVar 9) (oW (mListOf (mCons (mVar 10) mNil)) oNil))))) (oW (mTupO (oF (mBin dIx (mVar 2) (M.pure (.int 0))) (oW (mListOf (mCons (mBin dIx (mVar 2) (M.pure (.int 1))) mNil)) oNil))) oNil)))))
noncomputable def fn__law_deep__o : List D → Rf := runF none 11 fb__law_deep__o
noncomputable def fb_made_net__o : M Fl :=
  mSeq (mDrop (mFz (mCallN 3 none Net.fn_ask_net (xV (mVar 0) (xV (mVar 1) (xV (mVar 2) xNil)))))) fb__law_deep__o
noncomputable def fn_made_net__o : List D → Rf := runF none 11 fb_made_net__o
theorem obNum (n : Num) : obMk .tt (eNum n) = some (.l .z) := by cases n <;> rfl
def C11 (lines : List Line) (stands : List Stand) (c : Com) (a d e f g h i j : Slot) : Dt.Env := [.fz (eL eLine lines), .fz (eL eStand stands), .fz (eT2 D.str eNum c), a, d, e, f, g, h, i, j]
theorem body_o {lines : List Line} {stands : List Stand} {c : Com} (l1 : lines.length ≤ 10000) (l2 : stands.length ≤ 10000) : JR eNet (.dp mkN) (fb__law_deep__o (C11 lines stands c .un .un .un .un .un .un .un .un)) (lines, stands, c) := by
  let C := C11 lines stands c
  delta fb__law_deep__o
  have e1 : lines.map (fun l : Line => (l.1, l.2.1, l.2.2.1, l.2.2.2)) = lines := List.map_id' lines
  have e2 : stands.map (fun s : Stand => (s.1, s.2.1, s.2.2)) = stands := List.map_id' stands
  have K0 : mLcD [4, 5, 6, 7] mkL (mIter (mVar 0)) (gT 4 (gsC (Dt.gN 4) (gsC (Dt.gN 5) (gsC (Dt.gN 6) (gsC (Dt.gN 7) gsN))))) (M.pure true) (mTupO (oW (mListOf (mCons (mVar 4) mNil)) (oF (mVar 5) (oF (mVar 6) (oF (mVar 7) oNil))))) (C .un .un .un .un .un .un .un .un) = .ok (eL eLine lines, .dp (.l mkL)) (C .un .un .un .un .un .un .un .un) := by
    have := lcD (F := eLine) (G := eLine) (φ := fun l : Line => (l.1, l.2.1, l.2.2.1, l.2.2.2)) (own := [4, 5, 6, 7]) (m := mkL) (o := .dp mkL) (g := gT 4 (gsC (Dt.gN 4) (gsC (Dt.gN 5) (gsC (Dt.gN 6) (gsC (Dt.gN 7) gsN))))) (e := mTupO (oW (mListOf (mCons (mVar 4) mNil)) (oF (mVar 5) (oF (mVar 6) (oF (mVar 7) oNil))))) (ρ := C .un .un .un .un .un .un .un .un) (ρ0 := C .un .un .un .un .un .un .un .un) (ρ9 := C .un .un .un .un .un .un .un .un) (ρ1 := C .un .un .un .un .un .un .un .un) (fun _ => rfl) (i_L (F := eLine) (xs := lines) (f := mVar 0) (vf 0 rfl)) rfl (fun l hl => ⟨C .un (.fz (eL fq l.1)) (.fz (fq l.2.1)) (zI l.2.2.1) (.fz (D.str l.2.2.2)) .un .un .un, rfl, rfl, _, mtupO (oW1 (lofL (F := fq) (a1 (vf 4 rfl) a0)) rfl (oF1 (vf 5 rfl) (oF1 (vf 6 rfl) (oF1 (vf 7 rfl) o0)))), rfl⟩) (by omega) rfl
    rw [e1] at this
    exact this
  refine sq (ρ1 := C (.dp (.l mkL) (eL eLine lines)) .un .un .un .un .un .un .un) (sSetD K0 rfl) ?_
  have K1 : mLcD [8, 9, 10] mkS (mIter (mVar 1)) (gT 3 (gsC (Dt.gN 8) (gsC (Dt.gN 9) (gsC (Dt.gN 10) gsN)))) (M.pure true) (mTupO (oF (mVar 8) (oF (mVar 9) (oW (mListOf (mCons (mVar 10) mNil)) oNil)))) (C (.dp (.l mkL) (eL eLine lines)) .un .un .un .un .un .un .un) = .ok (eL eStand stands, .dp (.l mkS)) (C (.dp (.l mkL) (eL eLine lines)) .un .un .un .un .un .un .un) := by
    have := lcD (F := eStand) (G := eStand) (φ := fun s : Stand => (s.1, s.2.1, s.2.2)) (own := [8, 9, 10]) (m := mkS) (o := .dp mkS) (g := gT 3 (gsC (Dt.gN 8) (gsC (Dt.gN 9) (gsC (Dt.gN 10) gsN)))) (e := mTupO (oF (mVar 8) (oF (mVar 9) (oW (mListOf (mCons (mVar 10) mNil)) oNil)))) (ρ := C (.dp (.l mkL) (eL eLine lines)) .un .un .un .un .un .un .un) (ρ0 := C (.dp (.l mkL) (eL eLine lines)) .un .un .un .un .un .un .un) (ρ9 := C (.dp (.l mkL) (eL eLine lines)) .un .un .un .un .un .un .un) (ρ1 := C (.dp (.l mkL) (eL eLine lines)) .un .un .un .un .un .un .un) (fun _ => rfl) (i_L (F := eStand) (xs := stands) (f := mVar 1) (vf 1 rfl)) rfl (fun s hs => ⟨C (.dp (.l mkL) (eL eLine lines)) .un .un .un .un (zI s.1) (.fz (fq s.2.1)) (.fz (eL eWay s.2.2)), rfl, rfl, _, mtupO (oF1 (vf 8 rfl) (oF1 (vf 9 rfl) (oW1 (lofL (F := eWay) (a1 (vf 10 rfl) a0)) rfl o0))), rfl⟩) (by omega) rfl
    rw [e2] at this
    exact this
  refine sRet (mtupO (oS2 (s := .dp (.l mkL) (eL eLine lines)) (m := .l mkL) (d := eL eLine lines) rfl rfl (oW1 K1 rfl (oW1 (mtupO (oF1 (b2 (x := eT2 D.str eNum c) (z := D.str c.1) (vf 2 rfl) rfl rfl) (oW1 (lofNum (x := c.2) (a1 (b2 (x := eT2 D.str eNum c) (z := eNum c.2) (vf 2 rfl) rfl rfl) a0)) (obNum c.2) o0))) rfl o0)) rfl rfl)) (jr_mk rfl)
theorem deep_o {lines : List Line} {stands : List Stand} {c : Com} (l1 : lines.length ≤ 10000) (l2 : stands.length ≤ 10000) : fn__law_deep__o [eL eLine lines, eL eStand stands, eT2 D.str eNum c] = .ok (eNet (lines, stands, c)) (.dp mkN) .non :=
  run0 (F := eNet) (o := .dp mkN) (fb := fb__law_deep__o) (x := (lines, stands, c)) (body_o l1 l2)
theorem made_o {lines : List Line} {stands : List Stand} {c : Com} (h : Net.GoodNet lines stands c) (l1 : lines.length ≤ 10000) (l2 : stands.length ≤ 10000) : fn_made_net__o [eL eLine lines, eL eStand stands, eT2 D.str eNum c] = .ok (eNet (lines, stands, c)) (.dp mkN) .non := by
  refine run0 (F := eNet) (o := .dp mkN) (fb := fb_made_net__o) (x := (lines, stands, c)) ?_
  show JR eNet (.dp mkN) (fb_made_net__o (C11 lines stands c .un .un .un .un .un .un .un .un)) _
  delta fb_made_net__o
  exact sq (ρ1 := C11 lines stands c .un .un .un .un .un .un .un .un) (sDrop (mfz (cN (x1 (vf 0 rfl) (x1 (vf 1 rfl) (x1 (vf 2 rfl) x0))) rfl rfl (Net.e_ask_net (Net.good_made h).1) rfl))) (body_o l1 l2)
end K03
namespace K03
open PySem PySem.Spec L2 Dt Std
def sh_f1 : M Fl := mAsg (gT 3 (gsC (Dt.gN 2) (gsC (Dt.gN 3) (gsC (Dt.gN 4) gsN)))) (mVar 1)
theorem sh_e1 (dS : D) (al as_ : Addr) (dc : D) : sh_f1 (sh1 dS (.tup [.obj al, .obj as_, dc])) = .ok .nx (sh2 dS (.tup [.obj al, .obj as_, dc]) (.obj al) (.obj as_) dc) := rfl
noncomputable def sh_f2 : M Fl :=
  mSeq (mSet 5 (mCallN 2 (some 0) fn__law_take (xS 0 (xV (mLenL 3) xNil))))
    (mSeq (mSet 6 (mCallN 2 (some 0) fn__law_take (xS 0 (xV (mLenL 3) xNil))))
    (mSeq (mPutAt 3 (mTup (mCons (mBin dIx (mPeek 3 (mVar 5)) (M.pure (.int 0))) (mCons (mBin dIx (mPeek 3 (mVar 5)) (M.pure (.int 1))) (mCons (mBin dIx (mPeek 3 (mVar 6)) (M.pure (.int 2))) mNil)))) (mVar 5))
    (mSeq (mSet 5 (mCallN 2 (some 0) fn__law_take (xS 0 (xV (mLenL 2) xNil))))
    (mSeq (mSet 6 (mCallN 2 (some 0) fn__law_take (xS 0 (xV (mLenL 2) xNil))))
    (mSeq (mPutAt 2 (mBin dAdd (mTup (mCons (mBin dIx (mPeek 2 (mVar 6)) (M.pure (.int 0))) mNil)) (mFz (mSl (mPeek 2 (mVar 5)) (mPart (some (M.pure (.int 1)))) (mPart none)))) (mVar 5))
    mNx)))))
theorem sPutI {α : Type} {F : α → D} {fe fk : M D} {ρ ρ1 ρ2 ρ3 : Dt.Env} {v : α} {z : Int} {i : Nat} {xs : List α} (h1 : fe ρ = .ok (F v) ρ1) (h2 : fk ρ1 = .ok (.int z) ρ2) (h0 : ρ1[i]? = some (.io (eL F xs))) (h : ρ2[i]? = some (.io (eL F xs))) (hb : InB xs.length z) (e : ρ2.set i (.io (eL F (setI xs z v))) = ρ3) : mPutAt i fe fk ρ = .ok .nx ρ3 := by
  obtain ⟨a, b⟩ := ixN_of hb
  unfold mPutAt M.bind
  rw [h1]; dsimp only
  unfold chk
  rw [h0]; dsimp only
  rw [h2]; dsimp only
  rw [h]; dsimp only [eL]
  rw [List.length_map, a]; dsimp only
  rw [← e]
  congr 2
  unfold setI eL
  rw [List.map_set]
def t_shared (s : Stm) (N : Net) : Net × Stm :=
  let a := t__law_take s (N.2.1.length : Int)
  let b := t__law_take a.2 (N.2.1.length : Int)
  let c := t__law_take b.2 (N.1.length : Int)
  let d := t__law_take c.2 (N.1.length : Int)
  ((setI N.1 c.1 ((ix N.1 d.1).1, (ix N.1 c.1).2), setI N.2.1 a.1 ((ix N.2.1 a.1).1, (ix N.2.1 a.1).2.1, (ix N.2.1 b.1).2.2), N.2.2), d.2)
theorem e_shared {s : Stm} {N : Net} (h1 : 0 < N.1.length) (h2 : 0 < N.2.1.length) : shG sh_f2 (eStm s) (eL eLine N.1) (eL eStand N.2.1) (eC N.2.2) = some (eStm (t_shared s N).2, eL eLine (t_shared s N).1.1, eL eStand (t_shared s N).1.2.1) := by
  obtain ⟨ls, ss, c⟩ := N
  dsimp only at h1 h2
  have p1 : 0 < (ls.length : Int) := by omega
  have p2 : 0 < (ss.length : Int) := by omega
  obtain ⟨s1, e1⟩ : ∃ x, t__law_take s (ss.length : Int) = x := ⟨_, rfl⟩
  have u1 := take_b (s := s) p2
  obtain ⟨s2, e2⟩ : ∃ x, t__law_take s1.2 (ss.length : Int) = x := ⟨_, rfl⟩
  have u2 := take_b (s := s1.2) p2
  obtain ⟨s3, e3⟩ : ∃ x, t__law_take s2.2 (ls.length : Int) = x := ⟨_, rfl⟩
  have u3 := take_b (s := s2.2) p1
  obtain ⟨s4, e4⟩ : ∃ x, t__law_take s3.2 (ls.length : Int) = x := ⟨_, rfl⟩
  have u4 := take_b (s := s3.2) p1
  have q1 := Std.e__law_take (s := s) p2
  have q2 := Std.e__law_take (s := s1.2) p2
  have q3 := Std.e__law_take (s := s2.2) p1
  have q4 := Std.e__law_take (s := s3.2) p1
  have T : t_shared s (ls, ss, c) = ((setI ls s3.1 ((ix ls s4.1).1, (ix ls s3.1).2), setI ss s1.1 ((ix ss s1.1).1, (ix ss s1.1).2.1, (ix ss s2.1).2.2), c), s4.2) := by
    unfold t_shared
    simp only [e1, e2, e3, e4]
  rw [T]
  rw [e1] at u1 q1; rw [e2] at u2 q2; rw [e3] at u3 q3; rw [e4] at u4 q4
  have i1 : InB ss.length s1.1 := by unfold InB; omega
  have i2 : InB ss.length s2.1 := by unfold InB; omega
  have i3 : InB ls.length s3.1 := by unfold InB; omega
  have i4 : InB ls.length s4.1 := by unfold InB; omega
  obtain ⟨ss', es⟩ : ∃ x, setI ss s1.1 ((ix ss s1.1).1, (ix ss s1.1).2.1, (ix ss s2.1).2.2) = x := ⟨_, rfl⟩
  have key : sh_f2 (sh0 (eStm s) (eL eLine ls) (eL eStand ss) (eC c)) = .ok .nx [.io (eStm s4.2), .un, .io (eL eLine (setI ls s3.1 ((ix ls s4.1).1, (ix ls s3.1).2))), .io (eL eStand ss'), .fz (eC c), zI s3.1, zI s4.1] := by
    delta sh_f2
    refine sq (ρ1 := [.io (eStm s1.2), .un, .io (eL eLine ls), .io (eL eStand ss), .fz (eC c), zI s1.1, .un]) (sSet (cN (x1s (i := 0) rfl rfl (x1 (lnL (i := 3) (F := eStand) rfl) x0)) rfl rfl q1 rfl) rfl) ?_
    refine sq (ρ1 := [.io (eStm s2.2), .un, .io (eL eLine ls), .io (eL eStand ss), .fz (eC c), zI s1.1, zI s2.1]) (sSet (cN (x1s (i := 0) rfl rfl (x1 (lnL (i := 3) (F := eStand) rfl) x0)) rfl rfl q2 rfl) rfl) ?_
    refine sq (ρ1 := [.io (eStm s2.2), .un, .io (eL eLine ls), .io (eL eStand ss'), .fz (eC c), zI s1.1, zI s2.1]) (sPutI (F := eStand) (v := ((ix ss s1.1).1, (ix ss s1.1).2.1, (ix ss s2.1).2.2)) (mtup (a1 (b2 (pk (i := 3) (F := eStand) rfl (vf 5 rfl) rfl i1) rfl rfl) (a1 (b2 (pk (i := 3) (F := eStand) rfl (vf 5 rfl) rfl i1) rfl rfl) (a1 (b2 (pk (i := 3) (F := eStand) rfl (vf 6 rfl) rfl i2) rfl rfl) a0)))) (vf 5 rfl) rfl rfl i1 (by rw [es]; rfl)) ?_
    refine sq (ρ1 := [.io (eStm s3.2), .un, .io (eL eLine ls), .io (eL eStand ss'), .fz (eC c), zI s3.1, zI s2.1]) (sSet (cN (x1s (i := 0) rfl rfl (x1 (lnL (i := 2) (F := eLine) rfl) x0)) rfl rfl q3 rfl) rfl) ?_
    refine sq (ρ1 := [.io (eStm s4.2), .un, .io (eL eLine ls), .io (eL eStand ss'), .fz (eC c), zI s3.1, zI s4.1]) (sSet (cN (x1s (i := 0) rfl rfl (x1 (lnL (i := 2) (F := eLine) rfl) x0)) rfl rfl q4 rfl) rfl) ?_
    refine sq (ρ1 := [.io (eStm s4.2), .un, .io (eL eLine (setI ls s3.1 ((ix ls s4.1).1, (ix ls s3.1).2))), .io (eL eStand ss'), .fz (eC c), zI s3.1, zI s4.1]) (sPutI (F := eLine) (v := ((ix ls s4.1).1, (ix ls s3.1).2)) (b2 (mtup (a1 (b2 (pk (i := 2) (F := eLine) rfl (vf 6 rfl) rfl i4) rfl rfl) a0)) (mfz (slT (pk (i := 2) (F := eLine) rfl (vf 5 rfl) rfl i3) (pt1 rfl) pt0 rfl)) rfl) (vf 5 rfl) rfl rfl i3 rfl) rfl
  rw [es]
  unfold shG
  rw [key]
  rfl
noncomputable def ap_f1 : M Fl :=
  mSet 1 (mCatO (mBin dAdd (mFz (mLc [4] (mIter (mBin dIx (mVar 0) (M.pure (.int 0)))) (Dt.gN 4) (M.pure true) (mBin dIx (mVar 4) (M.pure (.int 0))))) (mFz (mLc [5] (mIter (mBin dIx (mVar 0) (M.pure (.int 1)))) (Dt.gN 5) (M.pure true) (mBin dIx (mVar 5) (M.pure (.int 2)))))) (mFz (mLst (mCons (mBin dIx (mBin dIx (mVar 0) (M.pure (.int 2))) (M.pure (.int 1))) mNil))))
theorem ap_e1 (ls : List OL) (ss : List OS) (c : D × Addr) (h1 : ls.length < 1000) (h2 : ss.length < 1000) : ap_f1 [.fz (OV ls ss c), .un, .un, .un, .un, .un] = .ok .nx [.fz (OV ls ss c), .ow (.lst ((objs ls ss c).map D.obj)), .un, .un, .un, .un] := by
  delta ap_f1
  have k1 := lcM (F := eOL) (G := D.obj) (φ := fun l : OL => l.1) (own := [4]) (g := Dt.gN 4) (e := mBin dIx (mVar 4) (M.pure (.int 0))) (ρ := [.fz (OV ls ss c), .un, .un, .un, .un, .un]) (ρ0 := [.fz (OV ls ss c), .un, .un, .un, .un, .un]) (ρ1 := [.fz (OV ls ss c), .un, .un, .un, .un, .un]) (ρ9 := [.fz (OV ls ss c), .un, .un, .un, .un, .un]) (i_L (F := eOL) (xs := ls) (f := mBin dIx (mVar 0) (M.pure (.int 0))) (b2 (vf 0 rfl) rfl rfl)) rfl (fun l hl => ⟨[.fz (OV ls ss c), .un, .un, .un, .fz (eOL l), .un], rfl, rfl, _, b2 (vf 4 rfl) rfl rfl, rfl⟩) (by omega) rfl
  have k2 := lcM (F := eOS) (G := D.obj) (φ := fun l : OS => l.2.2) (own := [5]) (g := Dt.gN 5) (e := mBin dIx (mVar 5) (M.pure (.int 2))) (ρ := [.fz (OV ls ss c), .un, .un, .un, .un, .un]) (ρ0 := [.fz (OV ls ss c), .un, .un, .un, .un, .un]) (ρ1 := [.fz (OV ls ss c), .un, .un, .un, .un, .un]) (ρ9 := [.fz (OV ls ss c), .un, .un, .un, .un, .un]) (i_L (F := eOS) (xs := ss) (f := mBin dIx (mVar 0) (M.pure (.int 1))) (b2 (vf 0 rfl) rfl rfl)) rfl (fun l hl => ⟨[.fz (OV ls ss c), .un, .un, .un, .un, .fz (eOS l)], rfl, rfl, _, b2 (vf 5 rfl) rfl rfl, rfl⟩) (by omega) rfl
  refine sSetO (catO (F := D.obj) (xs := ls.map (fun l => l.1) ++ ss.map (fun l => l.2.2)) (ys := [c.2]) (b2 (mfz k1) (mfz k2) (o_addL ?_)) (mfz (mlst (a1 (b2 (x := .tup [c.1, .obj c.2]) (z := .obj c.2) (b2 (x := OV ls ss c) (z := .tup [c.1, .obj c.2]) (vf 0 rfl) rfl rfl) rfl rfl) a0))) ?_) rfl
  · simp; omega
  · simp; omega
noncomputable def ap_f2 : M Fl :=
  mSeq (mEnApp 1 2 3 (mTup (mCons (mVar 2) (mCons (M.pure (.int 0)) mNil))))
    (mSeq (mFrz 1)
    (mSeq (mFor (mEnum (mCons (mVar 1) mNil)) (gT 2 (gsC (Dt.gN 2) (gsC (Dt.gN 3) gsN))) (mSeq (mIf (mTest (mBin dNe (mBin dIx (mVar 3) (mUn dNeg (M.pure (.int 1)))) (mTup (mCons (mVar 2) (mCons (M.pure (.int 0)) mNil))))) (mRet (mOf (M.pure (.bl false)))) mNx)
    (mSeq (mKill [2, 3]) mNx)))
    (mRet (mOf (M.pure (.bl true))))))
theorem nLs_ex {d : D} (h : apOk d = true) : ∃ xss : List (List D), nLs d = xss.map D.lst ∧ (∀ xs ∈ xss, xs.length < 10000) ∧ xss.length < 5000 := by
  unfold apOk at h
  split at h
  · rename_i ls ss w cs
    simp only [Bool.and_eq_true, decide_eq_true_eq, List.all_eq_true] at h
    obtain ⟨⟨⟨h1, h2⟩, h3⟩, h4, h5⟩ := h
    have A : ∀ l : List D, (∀ x ∈ l, (match x with | .tup [.lst xs, _, _, _] => decide (xs.length < 10000) | _ => false) = true) → ∃ xss : List (List D), l.map itA = xss.map D.lst ∧ (∀ xs ∈ xss, xs.length < 10000) ∧ xss.length = l.length := by
      intro l
      induction l with
      | nil => exact fun _ => ⟨[], rfl, by simp, rfl⟩
      | cons x l ih =>
        intro h
        obtain ⟨xss, e, b, q⟩ := ih (fun y hy => h y (List.mem_cons_of_mem _ hy))
        have hx := h x List.mem_cons_self
        split at hx
        · rename_i xs _ _ _
          refine ⟨xs :: xss, by rw [List.map_cons, e]; rfl, fun ys hy => ?_, by simp [q]⟩
          rcases List.mem_cons.mp hy with z | z
          · subst z; exact of_decide_eq_true hx
          · exact b ys z
        · cases hx
    have B : ∀ l : List D, (∀ x ∈ l, (match x with | .tup [_, _, .lst xs] => decide (xs.length < 10000) | _ => false) = true) → ∃ xss : List (List D), l.map itC = xss.map D.lst ∧ (∀ xs ∈ xss, xs.length < 10000) ∧ xss.length = l.length := by
      intro l
      induction l with
      | nil => exact fun _ => ⟨[], rfl, by simp, rfl⟩
      | cons x l ih =>
        intro h
        obtain ⟨xss, e, b, q⟩ := ih (fun y hy => h y (List.mem_cons_of_mem _ hy))
        have hx := h x List.mem_cons_self
        split at hx
        · rename_i _ _ xs
          refine ⟨xs :: xss, by rw [List.map_cons, e]; rfl, fun ys hy => ?_, by simp [q]⟩
          rcases List.mem_cons.mp hy with z | z
          · subst z; exact of_decide_eq_true hx
          · exact b ys z
        · cases hx
    obtain ⟨x1, e1, b1, q1⟩ := A ls h3
    obtain ⟨x2, e2, b2, q2⟩ := B ss h4
    refine ⟨x1 ++ x2 ++ [cs], ?_, fun xs hx => ?_, ?_⟩
    · show ls.map itA ++ ss.map itC ++ [.lst cs] = _
      rw [e1, e2]; simp
    · simp only [List.mem_append, List.mem_cons, List.not_mem_nil, or_false] at hx
      rcases hx with (z | z) | z
      · exact b1 xs z
      · exact b2 xs z
      · subst z; exact h5
    · simp; omega
  · cases h
instance inhD : Inhabited D := ⟨.non⟩
def apd : Nat → List (List D) → List (List D)
  | _, [] => []
  | k, x :: r => (x ++ [.tup [.int (k : Int), .int 0]]) :: apd (k + 1) r
def apR (s : Slot) (a b : Slot) : Dt.Env := [.un, s, a, b, .un, .un]
theorem run_app : ∀ (l : List (List D)) (k : Nat) (acc : List D) (a b : Slot), (∀ xs ∈ l, xs.length < 10000) → ∃ a' b', mEnAppL 2 3 (mTup (mCons (mVar 2) (mCons (M.pure (.int 0)) mNil))) k (l.map D.lst) acc (apR .un a b) = .ok (acc ++ (apd k l).map D.lst) (apR .un a' b')
  | [], k, acc, a, b, _ => ⟨a, b, by simp [apd, mEnAppL]⟩
  | x :: r, k, acc, a, b, h => by
    have hx := h x List.mem_cons_self
    obtain ⟨a', b', e⟩ := run_app r (k + 1) (acc ++ [.lst (x ++ [.tup [.int (k : Int), .int 0]])]) (.fz (.int (k : Int))) .un (fun xs hh => h xs (List.mem_cons_of_mem _ hh))
    refine ⟨a', b', ?_⟩
    rw [List.map_cons]
    unfold mEnAppL
    have f : mTup (mCons (mVar 2) (mCons (M.pure (.int 0)) mNil)) (((apR .un a b).set 2 (.fz (.int (k : Int)))).set 3 .un) = .ok (.tup [.int (k : Int), .int 0]) (apR .un (.fz (.int (k : Int))) .un) := mtup (a1 (vf 2 rfl) (a1 rfl a0))
    rw [f]
    dsimp only
    rw [if_pos ⟨hx, (by show (3 : Nat) < 6; omega)⟩, e]
    simp [apd]
theorem apd_at : ∀ (k : Nat) (l : List (List D)) (p : Int × List D), p ∈ ((List.range (apd k l).length).map fun i => ((k + i : Nat) : Int)).zip (apd k l) → ∃ x, p.2 = x ++ [.tup [.int p.1, .int 0]]
  | _, [], p, h => by simp [apd] at h
  | k, x :: r, p, h => by
    rw [apd, List.length_cons, List.range_succ_eq_map, List.map_cons, List.zip_cons_cons] at h
    rcases List.mem_cons.mp h with z | z
    · subst z; exact ⟨x, by simp⟩
    · refine apd_at (k + 1) r p ?_
      rw [List.map_map] at z
      have : ((fun i => ((k + i : Nat) : Int)) ∘ Nat.succ) = fun i => ((k + 1 + i : Nat) : Int) := by funext i; simp only [Function.comp]; congr 1; omega
      rw [this] at z
      exact z
theorem ap_e2 (d : D) (h : apOk d = true) : ∃ ρ, ap_f2 [.un, .dp (.l (.l .z)) (.lst (nLs d)), .un, .un, .un, .un] = .ok (.rt (.bl true) .ff) ρ := by
  obtain ⟨xss, e, hb, hl⟩ := nLs_ex h
  rw [e]
  obtain ⟨a, b, hr⟩ := run_app xss 0 [] .un .un hb
  rw [List.nil_append] at hr
  delta ap_f2
  let F : List D → D := D.lst
  have s1 : mEnApp 1 2 3 (mTup (mCons (mVar 2) (mCons (M.pure (.int 0)) mNil))) (apR (.dp (.l (.l .z)) (.lst (xss.map D.lst))) .un .un) = .ok .nx (apR (.dp (.l (.l .z)) (.lst ((apd 0 xss).map D.lst))) a b) := by
    unfold mEnApp
    show (match mEnAppL 2 3 (mTup (mCons (mVar 2) (mCons (M.pure (.int 0)) mNil))) 0 (xss.map D.lst) [] (apR .un .un .un) with
      | .ok acc ρ1 => Rs.ok Fl.nx (ρ1.set 1 (.dp (.l (.l .z)) (.lst acc)))
      | _ => .fail) = _
    rw [hr]
    rfl
  have s3 : ∀ (ps : List (Int × List D)) (a b : Slot), (∀ p ∈ ps, ∃ x, p.2 = x ++ [.tup [.int p.1, .int 0]]) → ∃ a' b', mForL (gT 2 (gsC (Dt.gN 2) (gsC (Dt.gN 3) gsN))) (mSeq (mIf (mTest (mBin dNe (mBin dIx (mVar 3) (mUn dNeg (M.pure (.int 1)))) (mTup (mCons (mVar 2) (mCons (M.pure (.int 0)) mNil))))) (mRet (mOf (M.pure (.bl false)))) mNx) (mSeq (mKill [2, 3]) mNx)) (ps.map (eT2 D.int D.lst)) (apR (.fz (.lst ((apd 0 xss).map D.lst))) a b) = .ok .nx (apR (.fz (.lst ((apd 0 xss).map D.lst))) a' b') := by
    intro ps
    induction ps with
    | nil => exact fun a b _ => ⟨a, b, rfl⟩
    | cons p r ih =>
      intro a b h
      obtain ⟨a', b', e⟩ := ih .un .un (fun q hq => h q (List.mem_cons_of_mem _ hq))
      refine ⟨a', b', ?_⟩
      obtain ⟨x, hx⟩ := h p List.mem_cons_self
      rw [List.map_cons]
      unfold mForL
      have g : gT 2 (gsC (Dt.gN 2) (gsC (Dt.gN 3) gsN)) (eT2 D.int D.lst p) (apR (.fz (.lst ((apd 0 xss).map D.lst))) a b) = some (apR (.fz (.lst ((apd 0 xss).map D.lst))) (.fz (.int p.1)) (.fz (.lst p.2))) := rfl
      rw [g]
      dsimp only
      have hi : dIx (.lst p.2) (.int (-1)) = some (.tup [.int p.1, .int 0]) := by
        have hbb : InB p.2.length (-1) := by rw [hx]; unfold InB; simp; omega
        have q := o_ixL (F := fun d : D => d) (xs := p.2) hbb
        have e1 : eL (fun d : D => d) p.2 = .lst p.2 := by unfold eL; rw [List.map_id']
        rw [e1] at q
        rw [q, hx]
        have : ix (x ++ [D.tup [.int p.1, .int 0]]) (-1) = .tup [.int p.1, .int 0] := by
          rw [DrL.ix_snoc]
        rw [this]
      have ht : mTest (mBin dNe (mBin dIx (mVar 3) (mUn dNeg (M.pure (.int 1)))) (mTup (mCons (mVar 2) (mCons (M.pure (.int 0)) mNil)))) (apR (.fz (.lst ((apd 0 xss).map D.lst))) (.fz (.int p.1)) (.fz (.lst p.2))) = .ok false (apR (.fz (.lst ((apd 0 xss).map D.lst))) (.fz (.int p.1)) (.fz (.lst p.2))) :=
        tst (b2 (b2 (vf 3 rfl) (u1 rfl rfl) hi) (mtup (a1 (vf 2 rfl) (a1 rfl a0))) (dNe_self ⟨rfl, rfl⟩))
      have hbd : (mSeq (mIf (mTest (mBin dNe (mBin dIx (mVar 3) (mUn dNeg (M.pure (.int 1)))) (mTup (mCons (mVar 2) (mCons (M.pure (.int 0)) mNil))))) (mRet (mOf (M.pure (.bl false)))) mNx) (mSeq (mKill [2, 3]) mNx)) (apR (.fz (.lst ((apd 0 xss).map D.lst))) (.fz (.int p.1)) (.fz (.lst p.2))) = .ok .nx (apR (.fz (.lst ((apd 0 xss).map D.lst))) .un .un) := by
        unfold mSeq M.bind
        rw [mIf_f ht]
        rfl
      unfold M.bind
      rw [hbd]
      exact e
  obtain ⟨a', b', h3⟩ := s3 (enumI (apd 0 xss)) a b (fun p hp => by
    refine apd_at 0 xss p ?_
    have e2 : ((List.range (apd 0 xss).length).map fun i => ((0 + i : Nat) : Int)) = rangeI 0 ((apd 0 xss).length : Int) := by
      rw [rangeI_nat]; simp [List.range_eq_range']
    rw [e2]
    exact hp)
  have h4 : mFor (mEnum (mCons (mVar 1) mNil)) (gT 2 (gsC (Dt.gN 2) (gsC (Dt.gN 3) gsN))) (mSeq (mIf (mTest (mBin dNe (mBin dIx (mVar 3) (mUn dNeg (M.pure (.int 1)))) (mTup (mCons (mVar 2) (mCons (M.pure (.int 0)) mNil))))) (mRet (mOf (M.pure (.bl false)))) mNx) (mSeq (mKill [2, 3]) mNx)) (apR (.fz (.lst ((apd 0 xss).map D.lst))) a b) = .ok .nx (apR (.fz (.lst ((apd 0 xss).map D.lst))) a' b') := by
    unfold mFor M.bind
    rw [i_enum (F := D.lst) (xs := apd 0 xss) (a1 (vf 1 rfl) a0)]
    exact h3
  have h2 : mFrz 1 (apR (.dp (.l (.l .z)) (.lst ((apd 0 xss).map D.lst))) a b) = .ok .nx (apR (.fz (.lst ((apd 0 xss).map D.lst))) a b) := rfl
  refine ⟨apR (.fz (.lst ((apd 0 xss).map D.lst))) a' b', ?_⟩
  show mSeq _ _ (apR (.dp (.l (.l .z)) (.lst (xss.map D.lst))) .un .un) = _
  rw [sq_eq s1, sq_eq h2, sq_eq h4]
  rfl
end K03
namespace K03
open PySem PySem.Spec L2 Dt Std
noncomputable def x3 : M (List AV) := xV (mBin dIx (mVar 3) (M.pure (.int 0))) (xV (mBin dIx (mVar 3) (M.pure (.int 1))) (xV (mBin dIx (mVar 3) (M.pure (.int 2))) xNil))
noncomputable def t54 : M Bool := mTh (fun _ => True) 5 (mTh (fun _ => True) 4 (mOr (mNot (mTest (mIsi "tuple" (mVar 5)))) (mOr (mTest (mBin dNe (mVar 5) (mVar 4))) (mTest (mBin dNe (mVar 3) (mVar 4))))))
noncomputable def t46 : M Bool := mTh (fun _ => True) 4 (mTh (fun _ => True) 6 (mOr (mTest (mBin dNe (mVar 3) (mVar 4))) (mTest (mBin dNe (mVar 6) (mVar 4)))))
noncomputable def t64 : M Bool := mTh (fun _ => True) 4 (mTh (fun _ => True) 6 (mTest (mBin dNe (mVar 6) (mVar 4))))
noncomputable def tA4 : M Bool := mOr (mNot (mTest (mApt (mCallN 3 none fn_made_net__o x3)))) (mTh (fun _ => True) 4 (mTest (mBin dNe (mVar 3) (mVar 4))))
noncomputable def fb_pre : M Fl :=
  mSeq (mSet 3 (mCallN 1 (some 0) fn__law_drawn (xS 2 xNil)))
    (mSeq (mShd 2 3 (shG sh_f2))
    (mSeq (mFrz 3)
    (mSeq (mSet 4 (mCallN 3 none fn__law_deep__o x3))
    (mSeq (mSet 5 (mCallN 3 none fn_made_net__o x3))
    (mSeq (mIf t54 (mRet (mOf (M.pure (.bl false)))) mNx)
    (mSeq (mSet 6 (mCallN 3 none fn_made_net__o x3))
    (mSeq (mChg 5)
    (mSeq (mIf t46 (mRet (mOf (M.pure (.bl false)))) mNx)
    (mSeq (mIf tA4 (mRet (mOf (M.pure (.bl false)))) mNx)
    mNx)))))))))
noncomputable def fb_rest : M Fl :=
  mSeq (mIf t64 (mRet (mOf (M.pure (.bl false)))) mNx)
    (mSeq (mKill [1, 2, 3, 4, 5, 6]) mNx)
noncomputable def fb_law : M Fl :=
  mSeq (mFor (mRange1 (mCons (M.pure (.int 2)) mNil)) (Dt.gN 1) (mSeq (mSet 2 (mCallN 2 none Std.fn__law_stream (xV (mVar 0) (xV (mVar 1) xNil))))
    (mFree 0 3 fb_pre fb_rest)))
    (mRet (mOf (M.pure (.bl true))))
noncomputable def fn_law : List D → Rf := runF none 7 fb_law
structure NetOk (N : Net) : Prop where
  gd : Net.GoodNet N.1 N.2.1 N.2.2
  ok : OkE eNet N
  ch : chOk (eNet N) = true
  ap : apOk (eNet N) = true
  lf : lfN mkN (eNet N) = true
  l1 : N.1.length < 1000
  l2 : N.2.1.length < 1000
theorem NetOk.ne {N : Net} (h : NetOk N) : dNe (eNet N) (eNet N) = some (.bl false) := by
  have := o_ney (F := eNet) (x := N) (y := N) yNet h.ok h.ok (fun _ => rfl)
  rw [this]; simp
theorem pre_ok {N N' : Net} {s s1 s2 : Stm} {a : Addr} {k : Int} (h1 : fn__law_drawn [eStm s] = .ok (eNet N) (.dp mkH) (eStm s1)) (h2 : shG sh_f2 (eStm s1) (eL eLine N.1) (eL eStand N.2.1) (eC N.2.2) = some (eStm s2, eL eLine N'.1, eL eStand N'.2.1)) (h3 : N'.2.2 = N.2.2) (g : NetOk N') :
    fb_pre [.fz (.obj a), zI k, .ow (eStm s), .un, .un, .un, .un] = .ok .nx [.fz (.obj a), zI k, .ow (eStm s2), .fz (eNet N'), .dp mkN (eNet N'), .un, .dp mkN (eNet N')] := by
  have q1 : mShd 2 3 (shG sh_f2) [.fz (.obj a), zI k, .ow (eStm s1), .dp mkH (eNet N), .un, .un, .un] = .ok .nx [.fz (.obj a), zI k, .ow (eStm s2), .dp mkH (eNet N'), .un, .un, .un] := by
    unfold mShd
    show (if mkH = mkH then match shG sh_f2 (eStm s1) (eL eLine N.1) (eL eStand N.2.1) (eC N.2.2) with
      | some (a, .lst b, .lst c) => Rs.ok Fl.nx _
      | _ => .fail else .fail) = _
    rw [if_pos rfl, h2]
    obtain ⟨l, s, c⟩ := N'
    subst h3
    rfl
  obtain ⟨ls, ss, c⟩ := N'
  dsimp only at h3
  obtain ⟨E, hE⟩ : ∃ E : Slot → Slot → Slot → Dt.Env, E = fun x4 x5 x6 => [.fz (.obj a), zI k, .ow (eStm s2), .fz (eNet (ls, ss, c)), x4, x5, x6] := ⟨_, rfl⟩
  have X : ∀ x4 x5 x6, x3 (E x4 x5 x6) = .ok [.v (eL eLine ls), .v (eL eStand ss), .v (eT2 D.str eNum c)] (E x4 x5 x6) := fun x4 x5 x6 => by
    subst hE
    exact x1 (b2 (vf 3 rfl) rfl rfl) (x1 (b2 (vf 3 rfl) rfl rfl) (x1 (b2 (vf 3 rfl) rfl rfl) x0))
  have D1 : ∀ x4 x5 x6, mCallN 3 none fn__law_deep__o x3 (E x4 x5 x6) = .ok (eNet (ls, ss, c), .dp mkN) (E x4 x5 x6) := fun x4 x5 x6 => cN (X x4 x5 x6) rfl rfl (deep_o (by have := g.l1; dsimp only at this; omega) (by have := g.l2; dsimp only at this; omega)) rfl
  have M1 : ∀ x4 x5 x6, mCallN 3 none fn_made_net__o x3 (E x4 x5 x6) = .ok (eNet (ls, ss, c), .dp mkN) (E x4 x5 x6) := fun x4 x5 x6 => cN (X x4 x5 x6) rfl rfl (made_o g.gd (by have := g.l1; dsimp only at this; omega) (by have := g.l2; dsimp only at this; omega)) rfl
  have ne := g.ne
  have V3 : ∀ x4 x5 x6, mVar 3 (E x4 x5 x6) = .ok (eNet (ls, ss, c)) (E x4 x5 x6) := fun x4 x5 x6 => by subst hE; exact vf 3 rfl
  have V4 : ∀ x5 x6, mVar 4 (E (.fz (eNet (ls, ss, c))) x5 x6) = .ok (eNet (ls, ss, c)) (E (.fz (eNet (ls, ss, c))) x5 x6) := fun x5 x6 => by subst hE; exact vf 4 rfl
  have V5 : ∀ x4 x6, mVar 5 (E x4 (.fz (eNet (ls, ss, c))) x6) = .ok (eNet (ls, ss, c)) (E x4 (.fz (eNet (ls, ss, c))) x6) := fun x4 x6 => by subst hE; exact vf 5 rfl
  have V6 : ∀ x4 x5, mVar 6 (E x4 x5 (.fz (eNet (ls, ss, c)))) = .ok (eNet (ls, ss, c)) (E x4 x5 (.fz (eNet (ls, ss, c)))) := fun x4 x5 => by subst hE; exact vf 6 rfl
  have S4 : ∀ x4 x5 x6 y, (E x4 x5 x6).set 4 y = E y x5 x6 := fun _ _ _ _ => by subst hE; rfl
  have S5 : ∀ x4 x5 x6 y, (E x4 x5 x6).set 5 y = E x4 y x6 := fun _ _ _ _ => by subst hE; rfl
  have S6 : ∀ x4 x5 x6 y, (E x4 x5 x6).set 6 y = E x4 x5 y := fun _ _ _ _ => by subst hE; rfl
  have G4 : ∀ x4 x5 x6, (E x4 x5 x6)[4]? = some x4 := fun _ _ _ => by subst hE; rfl
  have G5 : ∀ x4 x5 x6, (E x4 x5 x6)[5]? = some x5 := fun _ _ _ => by subst hE; rfl
  have G6 : ∀ x4 x5 x6, (E x4 x5 x6)[6]? = some x6 := fun _ _ _ => by subst hE; rfl
  have TH : ∀ x4 x5 x6 y4 y5 y6, thG x4 y4 → thG x5 y5 → thG x6 y6 → thH (E x4 x5 x6) (E y4 y5 y6) := fun _ _ _ _ _ _ u4 u5 u6 => by
    subst hE
    exact ⟨.inl rfl, .inl rfl, rfl, .inl rfl, u4, u5, u6, trivial⟩
  have lf := g.lf
  have isi : mIsi "tuple" (mVar 5) (E (.fz (eNet (ls, ss, c))) (.fz (eNet (ls, ss, c))) .un) = .ok (.bl true) (E (.fz (eNet (ls, ss, c))) (.fz (eNet (ls, ss, c))) .un) := by
    unfold mIsi M.bind
    rw [V5]
    rfl
  have c54 : t54 (E (.dp mkN (eNet (ls, ss, c))) (.dp mkN (eNet (ls, ss, c))) .un) = .ok false (E (.dp mkN (eNet (ls, ss, c))) (.dp mkN (eNet (ls, ss, c))) .un) := by
    delta t54
    refine t_th (s := .dp mkN (eNet (ls, ss, c))) (G5 _ _ _) rfl (ρ1 := E (.dp mkN (eNet (ls, ss, c))) (.fz (eNet (ls, ss, c))) .un) ?_ (by rw [S5]; exact TH _ _ _ _ _ _ lf trivial trivial) trivial (by rw [S5])
    rw [S5]
    refine t_th (s := .dp mkN (eNet (ls, ss, c))) (G4 _ _ _) rfl (ρ1 := E (.fz (eNet (ls, ss, c))) (.fz (eNet (ls, ss, c))) .un) ?_ (by rw [S4]; exact TH _ _ _ _ _ _ trivial (.inl rfl) trivial) trivial (by rw [S4])
    rw [S4]
    refine orr (c := false) (c2 := false) (nt (c := true) (tst isi)) (fun _ => orr (c := false) (c2 := false) (tst (b2 (V5 _ _) (V4 _ _) ne)) (fun _ => tst (b2 (V3 _ _ _) (V4 _ _) ne)))
  have c46 : t46 (E (.dp mkN (eNet (ls, ss, c))) .un (.dp mkN (eNet (ls, ss, c)))) = .ok false (E (.dp mkN (eNet (ls, ss, c))) .un (.dp mkN (eNet (ls, ss, c)))) := by
    delta t46
    refine t_th (s := .dp mkN (eNet (ls, ss, c))) (G4 _ _ _) rfl (ρ1 := E (.fz (eNet (ls, ss, c))) .un (.dp mkN (eNet (ls, ss, c)))) ?_ (by rw [S4]; exact TH _ _ _ _ _ _ trivial trivial lf) trivial (by rw [S4])
    rw [S4]
    refine t_th (s := .dp mkN (eNet (ls, ss, c))) (G6 _ _ _) rfl (ρ1 := E (.fz (eNet (ls, ss, c))) .un (.fz (eNet (ls, ss, c)))) ?_ (by rw [S6]; exact TH _ _ _ _ _ _ (.inl rfl) trivial trivial) trivial (by rw [S6])
    rw [S6]
    exact orr (c := false) (c2 := false) (tst (b2 (V3 _ _ _) (V4 _ _) ne)) (fun _ => tst (b2 (V6 _ _) (V4 _ _) ne))
  have cA4 : tA4 (E (.dp mkN (eNet (ls, ss, c))) .un (.dp mkN (eNet (ls, ss, c)))) = .ok false (E (.dp mkN (eNet (ls, ss, c))) .un (.dp mkN (eNet (ls, ss, c)))) := by
    delta tA4
    refine orr (c := false) (c2 := false) (nt (c := true) (tst ?_)) (fun _ => ?_)
    · have := M1 (.dp mkN (eNet (ls, ss, c))) .un (.dp mkN (eNet (ls, ss, c)))
      unfold mApt M.bind
      rw [this]
      dsimp only
      rw [if_pos ⟨rfl, g.ap⟩]
    · refine t_th (s := .dp mkN (eNet (ls, ss, c))) (G4 _ _ _) rfl (ρ1 := E (.fz (eNet (ls, ss, c))) .un (.dp mkN (eNet (ls, ss, c)))) ?_ (by rw [S4]; exact TH _ _ _ _ _ _ trivial trivial lf) trivial (by rw [S4])
      rw [S4]
      exact tst (b2 (V3 _ _ _) (V4 _ _) ne)
  have cC : mChg 5 (E (.dp mkN (eNet (ls, ss, c))) (.dp mkN (eNet (ls, ss, c))) (.dp mkN (eNet (ls, ss, c)))) = .ok .nx (E (.dp mkN (eNet (ls, ss, c))) .un (.dp mkN (eNet (ls, ss, c)))) := by
    unfold mChg
    rw [G5]
    dsimp only
    rw [if_pos ⟨rfl, g.ch, lf⟩, S5]
  have iff : ∀ {t : M Bool} {f : M Fl} {ρ : Dt.Env}, t ρ = .ok false ρ → mIf t f mNx ρ = .ok .nx ρ := fun h => by rw [mIf_f h]; rfl
  delta fb_pre
  refine Eq.trans (sq_eq (ρ1 := [.fz (.obj a), zI k, .ow (eStm s1), .dp mkH (eNet N), .un, .un, .un]) (sSetD (m := mkH) (cN (x1s (i := 2) rfl rfl x0) rfl rfl h1 rfl) rfl)) ?_
  refine Eq.trans (sq_eq q1) ?_
  refine Eq.trans (sq_eq (ρ1 := E .un .un .un) (by subst hE; rfl)) ?_
  refine Eq.trans (sq_eq (ρ1 := E (.dp mkN (eNet (ls, ss, c))) .un .un) (sSetD (m := mkN) (D1 _ _ _) (S4 _ _ _ _))) ?_
  refine Eq.trans (sq_eq (ρ1 := E (.dp mkN (eNet (ls, ss, c))) (.dp mkN (eNet (ls, ss, c))) .un) (sSetD (m := mkN) (M1 _ _ _) (S5 _ _ _ _))) ?_
  refine Eq.trans (sq_eq (iff c54)) ?_
  refine Eq.trans (sq_eq (ρ1 := E (.dp mkN (eNet (ls, ss, c))) (.dp mkN (eNet (ls, ss, c))) (.dp mkN (eNet (ls, ss, c)))) (sSetD (m := mkN) (M1 _ _ _) (S6 _ _ _ _))) ?_
  refine Eq.trans (sq_eq cC) ?_
  refine Eq.trans (sq_eq (iff c46)) ?_
  refine Eq.trans (sq_eq (iff cA4)) ?_
  subst hE
  rfl
theorem rest_ok {N : Net} {s : Stm} {ns : List Int} {k : Int} (g : NetOk N) : fb_rest [.fz (.scr ns), zI k, .ow (eStm s), .un, .dp mkN (eNet N), .un, .dp mkN (eNet N)] = .ok .nx [.fz (.scr ns), .un, .un, .un, .un, .un, .un] := by
  have ne := g.ne
  have lf := g.lf
  have c : t64 [.fz (.scr ns), zI k, .ow (eStm s), .un, .dp mkN (eNet N), .un, .dp mkN (eNet N)] = .ok false [.fz (.scr ns), zI k, .ow (eStm s), .un, .dp mkN (eNet N), .un, .dp mkN (eNet N)] := by
    delta t64
    refine t_th (s := .dp mkN (eNet N)) rfl rfl (ρ1 := [.fz (.scr ns), zI k, .ow (eStm s), .un, .fz (eNet N), .un, .dp mkN (eNet N)]) ?_ ⟨.inl rfl, .inl rfl, rfl, trivial, trivial, trivial, lf, trivial⟩ trivial rfl
    refine t_th (s := .dp mkN (eNet N)) rfl rfl (ρ1 := [.fz (.scr ns), zI k, .ow (eStm s), .un, .fz (eNet N), .un, .fz (eNet N)]) ?_ ⟨.inl rfl, .inl rfl, rfl, trivial, .inl rfl, trivial, trivial, trivial⟩ trivial rfl
    exact tst (b2 (vf 6 rfl) (vf 4 rfl) ne)
  delta fb_rest
  refine Eq.trans (sq_eq (ρ1 := [.fz (.scr ns), zI k, .ow (eStm s), .un, .dp mkN (eNet N), .un, .dp mkN (eNet N)]) (by rw [mIf_f c]; rfl)) rfl
theorem free_ok {N N' : Net} {s s1 s2 : Stm} {ns : List Int} {k : Int} (h1 : fn__law_drawn [eStm s] = .ok (eNet N) (.dp mkH) (eStm s1)) (h2 : shG sh_f2 (eStm s1) (eL eLine N.1) (eL eStand N.2.1) (eC N.2.2) = some (eStm s2, eL eLine N'.1, eL eStand N'.2.1)) (h3 : N'.2.2 = N.2.2) (g : NetOk N') :
    mFree 0 3 fb_pre fb_rest [.fz (.scr ns), zI k, .ow (eStm s), .un, .un, .un, .un] = .ok .nx [.fz (.scr ns), .un, .un, .un, .un, .un, .un] := by
  have lf := g.lf
  rw [mFree_ok (ns := ns) (ρ2 := [.un, zI k, .ow (eStm s2), .un, .dp mkN (eNet N'), .un, .dp mkN (eNet N')]) rfl ⟨rfl, ?_, rfl, fun a => ⟨eNet N', _, pre_ok h1 h2 h3 g, rfl, rfl, g.ch, rfl⟩⟩]
  · exact rest_ok g
  · show (true && (true && (true && (true && (lfN mkN (eNet N') && (true && (lfN mkN (eNet N') && true))))))) = true
    rw [lf]; rfl
theorem law_ok {ns : List Int} (h : ∀ k : Int, 0 ≤ k → k < 2 → ∃ (N N' : Net) (s1 s2 : Stm), fn__law_drawn [eStm (t__law_stream ns k)] = .ok (eNet N) (.dp mkH) (eStm s1) ∧ shG sh_f2 (eStm s1) (eL eLine N.1) (eL eStand N.2.1) (eC N.2.2) = some (eStm s2, eL eLine N'.1, eL eStand N'.2.1) ∧ N'.2.2 = N.2.2 ∧ NetOk N') : fn_law [D.scr ns] = .ok (D.bl true) .ff .non := by
  refine run0 (F := D.bl) (o := .ff) (fb := fb_law) (x := true) ?_
  show JR D.bl .ff (fb_law [.fz (D.scr ns), .un, .un, .un, .un, .un, .un]) _
  delta fb_law
  refine sq (ρ1 := [.fz (D.scr ns), .un, .un, .un, .un, .un, .un]) ?_ (sRet (mof rfl) (jr_mk rfl))
  refine forN (F := D.int) (ctx := fun (_ : Unit) => [.fz (D.scr ns), .un, .un, .un, .un, .un, .un]) (step := fun _ _ => ()) (S := fun _ (k : Int) => 0 ≤ k ∧ k < 2) (xs := rangeI 0 ((2 : Int))) (s := ()) (i_r1 (a1 rfl a0) (show -100000000 < ((2 : Int)) ∧ ((2 : Int)) < 100000000 by decide)) (sfl_all fun _ x hx => mem_rangeI.mp hx) (fun _ k hk => ⟨_, rfl, ?_⟩)
  obtain ⟨N, N', s1, s2, q1, q2, q3, g⟩ := h k hk.1 hk.2
  refine sq (ρ1 := [.fz (D.scr ns), zI k, .ow (eStm (t__law_stream ns k)), .un, .un, .un, .un]) (sSetO (cN (x1 (vf 0 rfl) (x1 (vf 1 rfl) x0)) rfl rfl (Std.e__law_stream (ns := ns) (k := k) (by omega) :) rfl) rfl) ?_
  exact free_ok q1 q2 q3 g
end K03
namespace Draw
open PySem L2 Dt Std Net Look Law
structure WaysOk (n : Int) (full : Bool) (ws : List Way) : Prop where
  wy : ∀ w ∈ ws, 0 ≤ w.1 ∧ w.1 < n ∧ SmQ w.2 ∧ 0 < w.2
  up : ws.Pairwise (fun a b => a.1 < b.1)
  le : sumQ (ws.map (·.2)) ≤ 1
  fu : full = true → sumQ (ws.map (·.2)) = 1
def GoesOut (n : Int) (full : Bool) (r : List Way × Stm) : Prop := WaysOk n full r.1
theorem map_zip2 (f : Int → Rat) : ∀ (xs ys : List Int), xs.length = ys.length → ((xs.zip ys).map (fun p => (p.1, f p.2))).map (·.1) = xs ∧ ((xs.zip ys).map (fun p => (p.1, f p.2))).map (·.2) = ys.map f
  | [], [], _ => ⟨rfl, rfl⟩
  | [], _ :: _, h => by cases h
  | _ :: _, [], h => by cases h
  | x :: xs, y :: ys, h => by
    obtain ⟨h1, h2⟩ := map_zip2 f xs ys (by simpa using h)
    simp only [List.zip_cons_cons, List.map_cons]
    exact ⟨by rw [h1], by rw [h2]⟩
theorem repI_one {α : Type} (x : α) (k : Int) : repI [x] k = List.replicate k.toNat x := by
  unfold repI
  generalize k.toNat = m
  induction m with
  | zero => rfl
  | succ m ih => rw [List.replicate_succ, List.flatten_cons, ih]; rfl
end Draw
namespace K03
open PySem L2 Dt Std Net Look Law Thru
def SomeOut (r : Rat × Stm) : Prop := SmQ r.1 ∧ 0 < r.1
theorem some_ok (s : Stm) : s__law_some s ∧ SomeOut (t__law_some s) := by
  unfold s__law_some t__law_some
  refine hd_cond (P := SomeOut) (fun _ => ?_) (fun _ => ?_)
  · have t1 := take_b (s := (t__law_take s 4).2) (most := 1000) (by decide)
    have t2 := take_b (s := (t__law_take (t__law_take s 4).2 1000).2) (most := 1000) (by decide)
    exact ⟨by omega, smq_div (by omega) (by omega) (by omega) (by omega), divI_pos (by omega) (by omega)⟩
  · have t1 := take_b (s := (t__law_take s 4).2) (most := 9) (by decide)
    have t2 := take_b (s := (t__law_take (t__law_take s 4).2 9).2) (most := 5) (by decide)
    exact ⟨by omega, smq_div (by omega) (by omega) (by omega) (by omega), divI_pos (by omega) (by omega)⟩
structure SpI (k : Nat) (z : Stm × List Int) : Prop where
  len : z.2.length = k + 1
  rg : ∀ x ∈ z.2, 1 ≤ x ∧ x ≤ 300 + 99 * k
  la : ∀ x ∈ z.2, x ≤ ix z.2 (-1)
  up : z.2.Pairwise (· ≤ ·)
theorem SpI.snoc {k : Nat} {z : Stm × List Int} (h : SpI k z) (s : Stm) {d : Int} (d0 : 0 ≤ d) (d2 : d ≤ 99) : SpI (k + 1) (s, z.2 ++ [ix z.2 (-1) + d]) := by
  have hm : ix z.2 (-1) ∈ z.2 := ix_mem (inB_last (by rw [h.len]; omega))
  have hr := h.rg _ hm
  refine ⟨?_, fun x hx => ?_, fun x hx => ?_, ?_⟩
  · show (z.2 ++ [_]).length = _; rw [List.length_append, h.len]; rfl
  · rcases List.mem_append.mp hx with hx | hx
    · have := h.rg x hx; omega
    · rw [List.mem_singleton.mp hx]; omega
  · show x ≤ ix (z.2 ++ [_]) (-1)
    rw [DrL.ix_snoc]
    rcases List.mem_append.mp hx with hx | hx
    · have := h.la x hx; omega
    · rw [List.mem_singleton.mp hx]; omega
  · refine List.pairwise_append.mpr ⟨h.up, List.pairwise_singleton _ _, fun x hx y hy => ?_⟩
    rw [List.mem_singleton.mp hy]
    have := h.la x hx; omega
def LineOut (kd : Str) (r : Line × Stm) : Prop := DrL.LineK kd r.1
theorem line_ok (s : Stm) (kd : Str) : s__law_line s kd ∧ LineOut kd (t__law_line s kd) := by
  unfold s__law_line t__law_line
  have t1 := take_b (s := s) (most := 300) (by decide)
  refine hd_bd (SpI 0) ⟨rfl, fun x hx => ?_, fun x hx => ?_, List.pairwise_singleton _ _⟩ ?_
  · rw [List.mem_singleton.mp hx]; omega
  · rw [List.mem_singleton.mp hx]; exact Int.le_refl _
  rintro ⟨s1, sp⟩ h1
  have t2 := take_b (s := s1) (most := 6) (by decide)
  refine hd_and ⟨by dsimp only; omega, by dsimp only; omega⟩ (hd_fold SpI ⟨h1.len, h1.rg, h1.la, h1.up⟩ (fun k hk z hz => ?_) (fun z hz => ?_))
  · have t3 := take_b (s := z.1) (most := 100) (by decide)
    have := hz.len
    dsimp only at hk
    rw [rangeI_len] at hk
    exact ⟨⟨inB_last (by omega), by omega⟩, hz.snoc _ t3.1 (by omega)⟩
  obtain ⟨s2, sp2⟩ := z
  dsimp only at hz
  rw [rangeI_len] at hz
  have t4 := take_b (s := s2) (most := 1000) (by decide)
  refine hd_bd (fun (z : Stm × Int) => 1 ≤ z.2 ∧ z.2 ≤ 1000) ⟨by dsimp only; omega, by dsimp only; omega⟩ ?_
  rintro ⟨s3, be⟩ ⟨b1, b3⟩
  dsimp only at b1 b3 ⊢
  refine hd_eq (hd_and (fun _ => (some_ok _).1) (hd_bd (fun (z : Stm × Rat) => SmQ z.2 ∧ (kd = "wide" → z.2 = 0)) ?_ ?_))
  · by_cases e : kd = "wide"
    · simp only [e, decide_true, Bool.not_true, Bool.false_and, cond_false]
      exact ⟨DrL.smq_zero, by simp⟩
    · cases (!decide (kd = "wide")) && decide ((t__law_take s3 2).1 = 1) with
      | true => exact ⟨(some_ok _).2.1, fun z => absurd z e⟩
      | false => exact ⟨DrL.smq_zero, fun _ => rfl⟩
  rintro ⟨s4, mo⟩ ⟨m1, m2⟩
  dsimp only at m1 m2 ⊢
  refine hd_eq (hd_eq (hd_and (fun _ => ?_) (hd_bd (fun (z : Stm × Int × Str) => (kd = "tight" ∧ 1 ≤ z.2.1 ∧ z.2.1 ≤ 9 ∧ z.2.2 ∈ [("stay" : Str), "lose", "skip"]) ∨ (kd ≠ "tight" ∧ z.2.1 = 0 ∧ z.2.2 = "")) ?_ ?_)))
  · have := take_b (s := (t__law_take s4 9).2) (most := 3) (by decide)
    exact inB_nat (i := (t__law_take (t__law_take s4 9).2 3).1) this.1 this.2
  · by_cases e : kd = "tight"
    · left
      have d1 := take_b (s := s4) (most := 9) (by decide)
      have d2 := take_b (s := (t__law_take s4 9).2) (most := 3) (by decide)
      simp only [e, decide_true, cond_true]
      refine ⟨trivial, ?_, ?_, ?_⟩
      · show 1 ≤ 1 + (t__law_take s4 9).1; omega
      · show 1 + (t__law_take s4 9).1 ≤ 9; omega
      · exact ix_mem (inB_nat (i := (t__law_take (t__law_take s4 9).2 3).1) d2.1 d2.2)
    · right
      simp only [e, decide_false, cond_false]
      exact ⟨e, by simp, by simp⟩
  rintro ⟨s5, ro, ru⟩ hro
  dsimp only at hro ⊢
  have hl := hz.len
  dsimp only at hl
  have hl6 : (((t__law_take s1 6).1 - 0).toNat : Int) ≤ 5 := by omega
  refine ⟨⟨fun _ _ => by omega, by omega⟩, ⟨⟨?_, ?_, fun x hx => ?_, ?_, m1, ?_, ?_, ?_⟩, fun e => ?_, fun e => ?_, m2⟩⟩
  · show 1 ≤ (sp2.map _).length; rw [List.length_map, hl]; omega
  · show (sp2.map _).length ≤ 6; rw [List.length_map, hl]; omega
  · obtain ⟨y, hy, rfl⟩ := List.mem_map.mp hx
    have := hz.rg y hy
    exact ⟨smq_div (by omega) (by omega) (by omega) (by omega), divI_pos (by omega) (by omega)⟩
  · show (sp2.map _).Pairwise _
    rw [List.pairwise_map]
    exact hz.up.imp fun h => divI_le h (by omega)
  · show 0 ≤ ro; rcases hro with h | h <;> omega
  · show ro ≤ 9; rcases hro with h | h <;> omega
  · rcases hro with ⟨_, h1, h2, h3⟩ | ⟨_, h1, h2⟩
    · right; exact ⟨by show 0 < ro; omega, h3⟩
    · left; exact ⟨h1, h2⟩
  · rcases hro with h | h
    · show 0 < ro; omega
    · exact absurd e h.1
  · rcases hro with h | h
    · exact absurd h.1 e
    · exact ⟨h.2.1, h.2.2⟩
theorem sum_pos9 {ps : List Int} (h : ∀ p ∈ ps, 1 ≤ p ∧ p ≤ 9) : (ps.length : Int) ≤ ps.sum ∧ ps.sum ≤ 9 * ps.length := by
  induction ps with
  | nil => exact ⟨Int.le_refl 0, Int.le_refl 0⟩
  | cons p ps ih =>
    have h1 := h p (by simp)
    have h2 := ih fun q hq => h q (List.mem_cons_of_mem _ hq)
    simp only [List.sum_cons, List.length_cons]; omega
theorem ways_mk9 {n below : Int} {full : Bool} {so pa : List Int} (hl : so.length = pa.length) (l12 : so.length ≤ 12) (hs : ∀ x ∈ so, 0 ≤ x ∧ x < n) (up : so.Pairwise (· < ·)) (hp : ∀ p ∈ pa, 1 ≤ p ∧ p ≤ 9) (hb : pa.sum ≤ below) (hb2 : below ≤ pa.sum + 4) (hf : full = true → below = pa.sum ∧ so ≠ []) :
    Draw.WaysOk n full ((so.zip pa).map fun p => (p.1, Rat.divInt p.2 below)) := by
  obtain ⟨e1, e2⟩ := Draw.map_zip2 (fun p => Rat.divInt p below) so pa hl
  obtain ⟨s1, s2⟩ := sum_pos9 hp
  have e3 : sumQ (((so.zip pa).map fun p => (p.1, Rat.divInt p.2 below)).map (·.2)) = Rat.divInt pa.sum below := by rw [e2, sumQ_div]
  refine ⟨fun w hw => ?_, ?_, ?_, fun z => ?_⟩
  · obtain ⟨p, hp1, rfl⟩ := List.mem_map.mp hw
    obtain ⟨h1, h2⟩ := List.of_mem_zip hp1
    have hpos : 0 < pa.length := List.length_pos_of_mem h2
    have := hp _ h2
    exact ⟨(hs _ h1).1, (hs _ h1).2, smq_div (by omega) (by omega) (by omega) (by omega), divI_pos (by omega) (by omega)⟩
  · have : (((so.zip pa).map fun p => (p.1, Rat.divInt p.2 below)).map (·.1)).Pairwise (· < ·) := by rw [e1]; exact up
    rw [List.pairwise_map] at this
    exact this
  · rw [e3]
    by_cases h0 : below = 0
    · rw [h0, Rat.divInt_zero]; decide
    · rw [← divI_self (a := below) (by omega)]
      exact divI_le hb (by omega)
  · rw [e3]
    obtain ⟨h1, h2⟩ := hf z
    have : 0 < so.length := List.length_pos_iff.mpr h2
    rw [h1, divI_self (by omega)]
theorem ways_ok (s : Stm) {n : Int} (full : Bool) (n1 : 1 ≤ n) (n12 : n ≤ 12) : s__law_ways s n full ∧ Draw.GoesOut n full (t__law_ways s n full) := by
  unfold s__law_ways t__law_ways
  refine hd_and ⟨by omega, by omega⟩ (hd_and (by rw [rangeI_len]; omega) (hd_bd (fun (z : Stm × List Int) => z.2.Sublist (rangeI 0 n)) (lcS_sub _ _) ?_))
  rintro ⟨s1, so⟩ hso
  dsimp only at hso ⊢
  refine hd_and (fun _ => by omega) (hd_bd (fun (z : Stm × List Int) => (∀ x ∈ z.2, 0 ≤ x ∧ x < n) ∧ z.2.Pairwise (· < ·) ∧ z.2.length ≤ 12 ∧ (full = true → z.2 ≠ [])) ?_ ?_)
  · have h1 : (∀ x ∈ so, 0 ≤ x ∧ x < n) := fun x hx => mem_rangeI.mp (hso.subset hx)
    have h2 := (range_lt 0 n).sublist hso
    have h3 : so.length ≤ 12 := by have := hso.length_le; rw [rangeI_len] at this; omega
    have tb := take_b (s := s1) (most := n) (by omega)
    cases hc : (full && decide (so = [])) with
    | true =>
      exact ⟨fun x hx => by rw [show x = _ from List.mem_singleton.mp hx]; exact tb, List.pairwise_singleton _ _, by show 1 ≤ 12; decide, fun _ => by show [_] ≠ []; simp⟩
    | false =>
      refine ⟨h1, h2, h3, fun hf z => ?_⟩
      have z' : so = [] := z
      rw [z', hf] at hc; simp at hc
  rintro ⟨s2, so2⟩ ⟨h1, h2, h3, h4⟩
  dsimp only at h1 h2 h3 h4 ⊢
  have lc := lcS_map (S := fun _ _ => True) (e := fun (x : Int) (s : Stm) => ((1 + (t__law_take s 9).1), (t__law_take s 9).2)) (fun (_ : Int) y => 1 ≤ y ∧ y ≤ 9) so2 s2 (fun x hx s => ⟨trivial, by have := take_b (s := s) (most := 9) (by decide); dsimp only; omega⟩)
  refine hd_and (by omega) (hd_bd (fun (z : Stm × List Int) => so2.length = z.2.length ∧ ∀ p ∈ z.2, 1 ≤ p ∧ p ≤ 9) ⟨lc.2.len, lc.2.right (fun _ _ _ h => h)⟩ ?_)
  rintro ⟨s3, pa⟩ ⟨q1, q2⟩
  dsimp only at q1 q2 ⊢
  obtain ⟨sp1, sp2⟩ := sum_pos9 q2
  have t1 := take_b (s := s3) (most := 5) (by decide)
  have hb : b2i (!full) = 0 ∨ b2i (!full) = 1 := by cases full <;> decide
  refine hd_and (mok (a := 20) (b := 20) (by omega) (by omega) (by decide)) (hd_bd (fun (z : Stm × Int) => pa.sum ≤ z.2 ∧ z.2 ≤ pa.sum + 4 ∧ (full = true → z.2 = pa.sum)) ?_ ?_)
  · cases full with
    | true =>
      have e : pa.sum + (t__law_take s3 5).1 * b2i (!true) = pa.sum := by show pa.sum + _ * 0 = _; omega
      dsimp only
      rw [e]
      exact ⟨by omega, by omega, fun _ => rfl⟩
    | false =>
      have e : pa.sum + (t__law_take s3 5).1 * b2i (!false) = pa.sum + (t__law_take s3 5).1 := by show pa.sum + _ * 1 = _; omega
      dsimp only
      rw [e]
      exact ⟨by omega, by omega, fun z => by cases z⟩
  rintro ⟨s4, be⟩ ⟨b1, b2, b3⟩
  dsimp only at b1 b2 b3 ⊢
  refine ⟨⟨fun p hp => ?_, by rw [List.length_zip]; omega⟩, ?_⟩
  · obtain ⟨m1, m2⟩ := List.of_mem_zip hp
    have : 0 < pa.length := List.length_pos_of_mem m2
    omega
  · exact ways_mk9 q1 h3 h1 h2 q2 b1 b2 fun hf => ⟨b3 hf, h4 hf⟩
theorem begins_b3 {ss : List Stand} {cs : List Int} (c0 : ∀ x ∈ cs, 0 ≤ x) (i : Int) : 0 ≤ begins ss cs i ∧ begins ss cs i ≤ cs.sum := by
  unfold begins
  induction cs generalizing ss with
  | nil => simp
  | cons x r ih =>
    cases ss with
    | nil =>
      have : 0 ≤ (x :: r).sum := by
        clear ih
        have : ∀ l : List Int, (∀ y ∈ l, 0 ≤ y) → 0 ≤ l.sum := fun l => by
          induction l with
          | nil => intro _; simp
          | cons a b ih => 
            intro h
            rw [List.sum_cons]
            have := h a (by simp)
            have := ih fun y hy => h y (List.mem_cons_of_mem _ hy)
            omega
        exact this _ c0
      simpa using this
    | cons s ss =>
      have h := ih (ss := ss) fun y hy => c0 y (List.mem_cons_of_mem _ hy)
      have h0 := c0 x (by simp)
      rw [List.zip_cons_cons, List.sum_cons]
      by_cases c : s.1 = i
      · rw [List.filter_cons_of_pos (by exact decide_eq_true c), List.map_cons, List.sum_cons]
        dsimp only
        omega
      · rw [List.filter_cons_of_neg (by simpa using c)]
        omega
structure RoomI (ma : List Stand) (cs : List Int) (k : Nat) (z : Stm × List Line) : Prop where
  len : z.2.length = k
  ok : ∀ i (h : i < z.2.length), GoodLine z.2[i] ∧ z.2[i].2.2.2 ≠ "lose" ∧ (z.2[i].2.2.1 = 0 ∨ begins ma cs (i : Int) ≤ z.2[i].2.2.1)
def RoomsOut (ma : List Stand) (cs : List Int) (n : Nat) (r : List Line × Stm) : Prop := r.1.length = n ∧ ∀ i (h : i < r.1.length), GoodLine r.1[i] ∧ r.1[i].2.2.2 ≠ "lose" ∧ (r.1[i].2.2.1 = 0 ∨ begins ma cs (i : Int) ≤ r.1[i].2.2.1)
theorem rooms_ok (s : Stm) {row : List Line} {ma : List Stand} {cs : List Int} (rl : row.length ≤ 12) (ml : ma.length ≤ 12) (hr : ∀ l ∈ row, GoodLine l ∧ l.2.2.1 = 0 ∧ l.2.2.2 = "") (c0 : ∀ x ∈ cs, 0 ≤ x) (c8 : cs.sum ≤ 8) : s__law_rooms s row ma cs ∧ RoomsOut ma cs row.length (t__law_rooms s row ma cs) := by
  unfold s__law_rooms t__law_rooms
  refine hd_eq (hd_last (hd_fold (RoomI ma cs) ⟨rfl, fun i h => absurd h (Nat.not_lt_zero _)⟩ (fun k hk z hz => ?_) (fun z hz => ⟨trivial, ?_⟩)))
  · obtain ⟨s1, fo⟩ := z
    have hk2 : k < row.length := by rw [enumI_len] at hk; exact hk
    rw [DrL.enumI_get hk hk2]
    dsimp only
    have hl := hz.len
    dsimp only at hl
    obtain ⟨g, r0, r1⟩ := hr _ (List.getElem_mem hk2)
    generalize row[k] = li at g r0 r1 ⊢
    refine hd_and (P := RoomI ma cs (k + 1)) (by rw [List.length_zip]; omega) (hd_bd (fun b => b = begins ma cs (k : Int)) rfl ?_)
    rintro b rfl
    have bb := begins_b3 (ss := ma) c0 (k : Int)
    have t1 := take_b (s := (t__law_take s1 2).2) (most := 4) (by decide)
    have t2 : ∀ s, 0 ≤ (t__law_take s 2).1 ∧ (t__law_take s 2).1 < 2 := fun s => take_b (by decide)
    have ib : ∀ s, InB ([("stay" : Str), "skip"]).length (t__law_take s 2).1 := fun s => inB_nat (t2 s).1 (by show _ < ((2 : Nat) : Int); have := (t2 s).2; omega)
    refine hd_and (P := RoomI ma cs (k + 1)) (fun _ => ib _) (hd_bd (fun (z : Stm × Line) => GoodLine z.2 ∧ z.2.2.2.2 ≠ "lose" ∧ (z.2.2.2.1 = 0 ∨ begins ma cs (k : Int) ≤ z.2.2.2.1)) ?_ ?_)
    · cases hc : decide ((t__law_take s1 2).1 = 1) with
      | false => exact ⟨g, by show li.2.2.2 ≠ _; rw [r1]; decide, .inl r0⟩
      | true =>
        simp only [cond_true]
        have hm := ix_mem (ib (t__law_take (t__law_take s1 2).2 4).2)
        show GoodLine (li.1, li.2.1, min 9 (max 1 (begins ma cs (k : Int)) + (t__law_take (t__law_take s1 2).2 4).1), ix [("stay" : Str), "skip"] (t__law_take (t__law_take (t__law_take s1 2).2 4).2 2).1) ∧ ix [("stay" : Str), "skip"] (t__law_take (t__law_take (t__law_take s1 2).2 4).2 2).1 ≠ "lose" ∧ (min 9 (max 1 (begins ma cs (k : Int)) + (t__law_take (t__law_take s1 2).2 4).1) = 0 ∨ begins ma cs (k : Int) ≤ min 9 (max 1 (begins ma cs (k : Int)) + (t__law_take (t__law_take s1 2).2 4).1))
        generalize hro : min 9 (max 1 (begins ma cs (k : Int)) + (t__law_take (t__law_take s1 2).2 4).1) = ro
        have hr1 : 1 ≤ ro ∧ ro ≤ 9 ∧ begins ma cs (k : Int) ≤ ro := by omega
        generalize ix [("stay" : Str), "skip"] (t__law_take (t__law_take (t__law_take s1 2).2 4).2 2).1 = ru at hm ⊢
        have hm' : ru = "stay" ∨ ru = "skip" := by simpa using hm
        refine ⟨⟨g.n1, g.n6, g.sp, g.up, g.mo, by show 0 ≤ ro; omega, hr1.2.1, .inr ⟨by show 0 < ro; omega, by show ru ∈ _; rcases hm' with rfl | rfl <;> simp⟩⟩, ?_, .inr hr1.2.2⟩
        rcases hm' with rfl | rfl <;> decide
    rintro ⟨s3, l3⟩ h3
    dsimp only at h3 ⊢
    refine ⟨by omega, ?_, fun i h => ?_⟩
    · show (fo ++ [l3]).length = _; rw [List.length_append, hl]; rfl
    · have h' : i < (fo ++ [l3]).length := h
      show GoodLine (fo ++ [l3])[i] ∧ (fo ++ [l3])[i].2.2.2 ≠ "lose" ∧ ((fo ++ [l3])[i].2.2.1 = 0 ∨ begins ma cs (i : Int) ≤ (fo ++ [l3])[i].2.2.1)
      rw [List.length_append, List.length_singleton] at h'
      by_cases e : i < fo.length
      · rw [List.getElem_append_left e]; exact hz.ok i e
      · have : i = k := by omega
        subst this
        rw [List.getElem_append_right (by omega)]
        simp only [hl, Nat.sub_self, List.getElem_cons_zero]
        exact h3
  · have := hz.len
    rw [enumI_len] at this
    exact ⟨this, hz.ok⟩
end K03
namespace K03
open PySem L2 Dt Std Net Look Law Thru
def DrOut (r : Net × Stm) : Prop := GoodNet r.1.1 r.1.2.1 r.1.2.2
theorem sum_set3 {xs : List Int} {s : Int} {v : Int} (h : 0 ≤ s ∧ s < xs.length) : (setI xs s v).sum = xs.sum - ix xs s + v := by
  obtain ⟨k, rfl⟩ : ∃ k : Nat, s = k := ⟨s.toNat, by omega⟩
  have hk : k < xs.length := by omega
  rw [ix_get hk]
  rw [setI_nat]
  clear h
  induction xs generalizing k with
  | nil => simp at hk
  | cons y ys ih =>
    cases k with
    | zero => simp; omega
    | succ k =>
      have hk' : k < ys.length := by simpa using hk
      have := ih k hk'
      simp only [List.set_cons_succ, List.sum_cons, List.getElem_cons_succ]
      omega
structure CntJ (n k : Nat) (z : Stm × List Int) : Prop where
  len : z.2.length = n
  c0 : ∀ x ∈ z.2, 0 ≤ x
  su : z.2.sum = (k : Int)
theorem rates_all {rs : List Rat} (h : ∀ x ∈ rs, SmQ x) {v : Rat} (hv : SmQ v ∧ 0 < v) {i : Int} (hi : InB rs.length i) : (setI rs i v).length = rs.length ∧ (∀ x ∈ setI rs i v, SmQ x) ∧ ∃ x ∈ setI rs i v, x ≠ 0 := by
  refine ⟨setI_len, fun x hx => ?_, v, ?_, fun z => ?_⟩
  · unfold setI at hx
    rcases List.mem_or_eq_of_mem_set hx with h1 | h1
    · exact h x h1
    · rw [h1]; exact hv.1
  · unfold setI
    exact List.mem_iff_getElem.mpr ⟨_, by rw [List.length_set]; exact (ixN_of hi).2, by rw [List.getElem_set_self]⟩
  · have := hv.2; rw [z] at this; exact absurd this (by decide)
theorem all2_ex {α β : Type} {R : α → β → Prop} {xs : List α} {ys : List β} (h : All2 R xs ys) : ∀ x ∈ xs, ∃ y ∈ ys, R x y := by
  induction h with
  | nil => intro x hx; cases hx
  | cons a t ih =>
    intro x hx
    rcases List.mem_cons.mp hx with rfl | hx
    · exact ⟨_, List.mem_cons_self, a⟩
    · obtain ⟨y, hy, r⟩ := ih x hx
      exact ⟨y, List.mem_cons_of_mem _ hy, r⟩
theorem drawn_ok (s : Stm) : s__law_drawn s ∧ DrOut (t__law_drawn s) := by
  unfold s__law_drawn t__law_drawn
  have t3 := take_b (s := s) (most := 3) (by decide)
  have ib : InB ([("wide" : Str), ("tight" : Str), ("shut" : Str)] : List Str).length (t__law_take s 3).1 := inB_nat t3.1 t3.2
  refine hd_and ib (hd_bd (fun (z : Stm × Str) => z.2 ∈ ([("wide" : Str), ("tight" : Str), ("shut" : Str)] : List Str)) (ix_mem ib) ?_)
  rintro ⟨s1, kd⟩ hk
  dsimp only at hk ⊢
  have t8 := take_b (s := s1) (most := 8) (by decide)
  refine hd_bd (fun (z : Stm × Int) => 1 ≤ z.2 ∧ z.2 ≤ 8) (by dsimp only; omega) ?_
  rintro ⟨s2, nl⟩ ⟨l1, l8⟩
  dsimp only at l1 l8 ⊢
  have t5 := take_b (s := s2) (most := 13 - nl) (by omega)
  have lp := lcS_map (S := fun (xv3 : Int) (s4 : Stm) => 0 < nl) (e := fun (xv3 : Int) (s4 : Stm) => ((t__law_take s4 nl).1, (t__law_take s4 nl).2)) (fun (_ : Int) (y : Int) => 0 ≤ y ∧ y < nl) (rangeI 0 (t__law_take s2 (13 - nl)).1) (t__law_take s2 (13 - nl)).2 (fun x hx s => ⟨by omega, take_b (by omega)⟩)
  have ll := lp.2.len
  rw [rangeI_len] at ll
  have rl : (rangeI 0 nl).length = nl.toNat := by rw [rangeI_len]; omega
  refine hd_and ⟨by omega, by omega⟩ (hd_and (by omega) (hd_and ⟨by omega, by omega⟩ (hd_and lp.1 (hd_and (by rw [rangeI_len]; omega) (hd_and (by rw [rl]; omega) (hd_bd (fun (z : Stm × List Int) => nl ≤ z.2.length ∧ z.2.length ≤ 12 ∧ (∀ x ∈ z.2, 0 ≤ x ∧ x < nl) ∧ ∀ x : Int, 0 ≤ x → x < nl → x ∈ z.2) ⟨?_, ?_, fun x hx => ?_, fun x h0 h1 => ?_⟩ ?_))))))
  · dsimp only; rw [List.length_append, rl]; omega
  · dsimp only; rw [List.length_append, rl]; omega
  · rcases List.mem_append.mp hx with hx | hx
    · rw [mem_rangeI] at hx; exact hx
    · exact lp.2.right (fun _ _ _ h => h) x hx
  · exact List.mem_append.mpr (.inl (mem_rangeI.mpr ⟨h0, h1⟩))
  rintro ⟨s3, pl⟩ ⟨p1, p12, p2, p3⟩
  dsimp only at p1 p12 p2 p3 ⊢
  have lm := lcS_map (S := fun (xv8 : Int) (s9 : Stm) => s__law_line s9 kd) (e := fun (xv8 : Int) (s9 : Stm) => ((t__law_line s9 kd).1, (t__law_line s9 kd).2)) (fun (_ : Int) (y : Line) => DrL.LineK kd y) (rangeI 0 nl) s3 (fun x hx s => line_ok s kd)
  have lml := lm.2.len
  rw [rl] at lml
  refine hd_and ⟨by omega, by omega⟩ (hd_and lm.1 (hd_and (by omega) (hd_bd (fun (z : Stm × List Line) => (z.2.length : Int) = nl ∧ ∀ y ∈ z.2, DrL.LineK kd y) ⟨by dsimp only; omega, lm.2.right (fun _ _ _ h => h)⟩ ?_)))
  rintro ⟨s4, ls⟩ ⟨q1, q2⟩
  dsimp only at q1 q2 ⊢
  have ls_ := lcS_map (S := fun (xv13 : Int) (s14 : Stm) => (s__law_some s14) ∧ (s__law_ways ((t__law_some s14).2) ((pl.length : Int)) ((decide (kd = ("shut" : Str)))))) (e := fun (xv13 : Int) (s14 : Stm) => ((xv13, (t__law_some s14).1, (t__law_ways ((t__law_some s14).2) ((pl.length : Int)) ((decide (kd = ("shut" : Str))))).1), (t__law_ways ((t__law_some s14).2) ((pl.length : Int)) ((decide (kd = ("shut" : Str))))).2)) (fun (x : Int) (y : Stand) => y.1 = x ∧ SmQ y.2.1 ∧ 0 < y.2.1 ∧ Draw.WaysOk (pl.length : Int) (decide (kd = ("shut" : Str))) y.2.2) pl.reverse s4 (fun x hx s => by
    have w := ways_ok (t__law_some s).2 (n := (pl.length : Int)) (decide (kd = ("shut" : Str))) (by omega) (by omega)
    exact ⟨⟨(some_ok s).1, w.1⟩, rfl, (some_ok s).2.1, (some_ok s).2.2, w.2⟩)
  have lsl := ls_.2.len
  rw [List.length_reverse] at lsl
  refine hd_and ls_.1 (hd_and (by rw [List.length_reverse]; omega) (hd_bd (fun (z : Stm × List Stand) => z.2.length = pl.length ∧ (∀ y ∈ z.2, 0 ≤ y.1 ∧ y.1 < nl ∧ SmQ y.2.1 ∧ 0 < y.2.1 ∧ Draw.WaysOk (pl.length : Int) (decide (kd = ("shut" : Str))) y.2.2) ∧ ∀ x : Int, 0 ≤ x → x < nl → ∃ y ∈ z.2, y.1 = x) ⟨lsl.symm, ls_.2.right (fun x hx y h => ?_), fun x h0 h1 => ?_⟩ ?_))
  · obtain ⟨rfl, h1, h2, h3⟩ := h
    have := p2 _ (List.mem_reverse.mp hx)
    exact ⟨this.1, this.2, h1, h2, h3⟩
  · obtain ⟨y, hy, r⟩ := all2_ex ls_.2 x (List.mem_reverse.mpr (p3 x h0 h1))
    exact ⟨y, hy, r.1⟩
  rintro ⟨s5, ma⟩ ⟨m1, m2, m3⟩
  dsimp only at m1 m2 m3 ⊢
  have us : ∀ i : Nat, i < ls.length → ∃ st ∈ ma, st.1 = (i : Int) := fun i hi => m3 i (by omega) (by omega)
  have gst : ∀ st ∈ ma, GoodStand ls.length ma.length st := fun st hs => by
    obtain ⟨y0, y1, y2, y3, y4⟩ := m2 st hs
    exact ⟨y0, by omega, ⟨y2, y3⟩, fun w hw => by have := y4.wy w hw; exact ⟨this.1, by omega, this.2.2.1, this.2.2.2⟩, y4.up, y4.le⟩
  refine hd_cond (P := DrOut) (fun e => ?_) (fun e => ?_)
  · have e := of_decide_eq_true e
    have rep : repI (([(0 : Int)] : List Int)) ((ma.length : Int)) = List.replicate ma.length 0 := by rw [Draw.repI_one]; simp
    have z0 : ∀ m : Nat, (List.replicate m (0 : Int)).sum = 0 := fun m => by
      induction m with
      | zero => rfl
      | succ m ih => rw [List.replicate_succ, List.sum_cons, ih]; rfl
    refine hd_and ⟨by omega, by omega, by show 1 ≤ 1000; decide⟩ (hd_bd (fun z => z = List.replicate ma.length (0 : Int)) rep ?_)
    rintro _ rfl
    have tc := take_b (s := s5) (most := 8) (by decide)
    refine hd_and ⟨by omega, by omega⟩ (hd_fold (CntJ ma.length) ⟨by show (List.replicate _ _).length = _; rw [List.length_replicate], fun x hx => by rw [(List.mem_replicate.mp hx).2]; decide, by show (List.replicate _ _).sum = _; rw [z0]; rfl⟩ (fun k hk z hz => ?_) (fun z hz => ?_))
    · obtain ⟨s6, cs⟩ := z
      obtain ⟨c1, c2, c3⟩ := hz
      dsimp only at c1 c2 c3 ⊢
      have ti := take_b (s := s6) (most := (ma.length : Int)) (by omega)
      have ib2 : InB cs.length (t__law_take s6 (ma.length : Int)).1 := inB_nat ti.1 (by omega)
      have x0 := c2 _ (ix_mem ib2)
      refine ⟨⟨by omega, ⟨ti.1, by omega⟩, by omega⟩, ?_, ?_, ?_⟩
      · show (setI cs _ _).length = _
        rw [setI_len]; exact c1
      · intro x hx
        have hx' : x ∈ setI cs _ _ := hx
        rcases List.mem_or_eq_of_mem_set hx' with h | h
        · exact c2 x h
        · omega
      · show (setI cs _ _).sum = _
        rw [sum_set3 ⟨ti.1, by omega⟩]
        omega
    · obtain ⟨s6, cs⟩ := z
      obtain ⟨c1, c2, c3⟩ := hz
      dsimp only at c1 c2 c3 ⊢
      rw [rangeI_len] at c3
      have c8 : 1 ≤ cs.sum ∧ cs.sum ≤ 8 := by omega
      have nt : kd ≠ "tight" := fun z => by rw [e] at z; exact absurd z (by decide)
      obtain ⟨r1, r2, r3⟩ := rooms_ok s6 (row := ls) (ma := ma) (cs := cs) (by omega) (by omega) (fun l hl => ⟨(q2 l hl).1, (q2 l hl).2.2.1 nt⟩) c2 c8.2
      refine ⟨r1, (show GoodNet (t__law_rooms s6 ls ma cs).1 ma ("shut", .inr cs) from ?_)⟩
      generalize (t__law_rooms s6 ls ma cs).1 = ls' at r2 r3 ⊢
      refine ⟨by omega, by omega, by omega, by omega, fun l hl => ?_, by rw [r2]; exact gst, by rw [r2]; exact us, .inr ⟨rfl, cs, rfl, c1, c2, c8.1, c8.2, fun l hl => ?_, fun st hs => ?_, fun i hi => (r3 i hi).2.2⟩⟩
      · obtain ⟨i, hi, rfl⟩ := List.mem_iff_getElem.mp hl
        exact (r3 i hi).1
      · obtain ⟨i, hi, rfl⟩ := List.mem_iff_getElem.mp hl
        exact (r3 i hi).2.1
      · exact (m2 st hs).2.2.2.2.fu (decide_eq_true e)
  · have e := of_decide_eq_false e
    have lr := lcS_map (S := fun (xv23 : Int) (s26 : Stm) => ((decide ((t__law_take s26 ((2 : Int))).1 = (0 : Int))) = false → (s__law_some ((t__law_take s26 ((2 : Int))).2)))) (e := fun (xv23 : Int) (s26 : Stm) => ((cond ((decide ((t__law_take s26 ((2 : Int))).1 = (0 : Int)))) ((0 : Rat)) ((t__law_some ((t__law_take s26 ((2 : Int))).2)).1)), (cond ((decide ((t__law_take s26 ((2 : Int))).1 = (0 : Int)))) ((t__law_take s26 ((2 : Int))).2) ((t__law_some ((t__law_take s26 ((2 : Int))).2)).2)))) (fun (_ : Int) (y : Rat) => SmQ y) pl s5 (fun x hx s => ⟨fun _ => (some_ok _).1, by
      dsimp only
      cases decide ((t__law_take s 2).1 = 0) with
      | true => exact DrL.smq_zero
      | false => exact (some_ok _).2.1⟩)
    refine hd_and lr.1 (hd_and (by omega) (hd_bd (fun (z : Stm × List Rat) => z.2.length = pl.length ∧ ∀ y ∈ z.2, SmQ y) ⟨lr.2.len.symm, lr.2.right (fun _ _ _ h => h)⟩ ?_))
    rintro ⟨s6, rs⟩ ⟨r1, r2⟩
    dsimp only at r1 r2 ⊢
    have so := some_ok s6
    have ti := take_b (s := (t__law_some s6).2) (most := (pl.length : Int)) (by omega)
    have ib2 : InB rs.length (t__law_take (t__law_some s6).2 (pl.length : Int)).1 := inB_nat ti.1 (by omega)
    refine ⟨⟨so.1, by omega, ib2⟩, (show GoodNet ls ma ("open", .inl (setI rs (t__law_take (t__law_some s6).2 (pl.length : Int)).1 (t__law_some s6).1)) from ?_)⟩
    obtain ⟨u1, u2, u3⟩ := rates_all r2 so.2 ib2
    refine ⟨by omega, by omega, by omega, by omega, fun l hl => (q2 l hl).1, gst, us, .inl ⟨rfl, _, rfl, by omega, u2, u3, ?_⟩⟩
    by_cases t : kd = "tight"
    · exact .inr fun l hl => (q2 l hl).2.1 t
    · have w : kd = "wide" := by
        simp at hk
        rcases hk with h | h | h
        · exact h
        · exact absurd h t
        · exact absurd h e
      exact .inl fun l hl => ⟨((q2 l hl).2.2.1 t).1, (q2 l hl).2.2.2 w⟩
theorem begins_fst : ∀ (c : List Int) (ss ss' : List Stand) (i : Int), ss.map (·.1) = ss'.map (·.1) → begins ss c i = begins ss' c i
  | [], _, _, _, _ => by unfold begins; simp
  | _ :: _, [], [], _, _ => rfl
  | _ :: _, [], _ :: _, _, h => by simp at h
  | _ :: _, _ :: _, [], _, h => by simp at h
  | x :: c, a :: ss, b :: ss', i, h => by
    simp only [List.map_cons, List.cons.injEq] at h
    have ih := begins_fst c ss ss' i h.2
    unfold begins at ih ⊢
    simp only [List.zip_cons_cons, List.filter_cons, h.1]
    by_cases e : b.1 = i
    · simp only [e, decide_true, if_true, List.map_cons, List.sum_cons, ih]
    · simp only [e, decide_false, Bool.false_eq_true, if_false, ih]
theorem setI_at {α : Type} [Inhabited α] {xs : List α} {k : Int} {v : α} (h0 : 0 ≤ k) (h1 : k < xs.length) {i : Nat} (hi : i < (setI xs k v).length) (hi2 : i < xs.length) : (setI xs k v)[i] = if (i : Int) = k then v else xs[i] := by
  obtain ⟨n, rfl⟩ : ∃ n : Nat, k = n := ⟨k.toNat, by omega⟩
  have e1 : ixN' xs.length (n : Int) = n := by unfold ixN'; rw [if_neg (by omega)]; rfl
  unfold setI
  simp only [e1, List.getElem_set]
  by_cases e : n = i
  · subst e; simp
  · rw [if_neg e, if_neg (by omega)]
structure Shr (N N' : Net) : Prop where
  l : N'.1.length = N.1.length
  la : ∀ i (h : i < N'.1.length) (h2 : i < N.1.length), ∃ y ∈ N.1, N'.1[i] = (y.1, N.1[i].2)
  s : N'.2.1.length = N.2.1.length
  sa : ∀ i (h : i < N'.2.1.length) (h2 : i < N.2.1.length), ∃ y ∈ N.2.1, N'.2.1[i] = (N.2.1[i].1, N.2.1[i].2.1, y.2.2)
  c : N'.2.2 = N.2.2
theorem shr_ok (s : Stm) {N : Net} (h1 : 0 < N.1.length) (h2 : 0 < N.2.1.length) : Shr N (t_shared s N).1 := by
  obtain ⟨ls, ss, c⟩ := N
  dsimp only at h1 h2
  have p1 : 0 < (ls.length : Int) := by omega
  have p2 : 0 < (ss.length : Int) := by omega
  have b1 := take_b (s := s) p2
  have b2 := take_b (s := (t__law_take s (ss.length : Int)).2) p2
  have b3 := take_b (s := (t__law_take (t__law_take s (ss.length : Int)).2 (ss.length : Int)).2) p1
  have b4 := take_b (s := (t__law_take (t__law_take (t__law_take s (ss.length : Int)).2 (ss.length : Int)).2 (ls.length : Int)).2) p1
  have T : t_shared s (ls, ss, c) = ((setI ls (t__law_take (t__law_take (t__law_take s (ss.length : Int)).2 (ss.length : Int)).2 (ls.length : Int)).1 ((ix ls (t__law_take (t__law_take (t__law_take (t__law_take s (ss.length : Int)).2 (ss.length : Int)).2 (ls.length : Int)).2 (ls.length : Int)).1).1, (ix ls (t__law_take (t__law_take (t__law_take s (ss.length : Int)).2 (ss.length : Int)).2 (ls.length : Int)).1).2), setI ss (t__law_take s (ss.length : Int)).1 ((ix ss (t__law_take s (ss.length : Int)).1).1, (ix ss (t__law_take s (ss.length : Int)).1).2.1, (ix ss (t__law_take (t__law_take s (ss.length : Int)).2 (ss.length : Int)).1).2.2), c), (t__law_take (t__law_take (t__law_take (t__law_take s (ss.length : Int)).2 (ss.length : Int)).2 (ls.length : Int)).2 (ls.length : Int)).2) := rfl
  rw [T]
  generalize (t__law_take (t__law_take (t__law_take (t__law_take s (ss.length : Int)).2 (ss.length : Int)).2 (ls.length : Int)).2 (ls.length : Int)) = d at b4 ⊢
  generalize (t__law_take (t__law_take (t__law_take s (ss.length : Int)).2 (ss.length : Int)).2 (ls.length : Int)) = c' at b3 ⊢
  generalize (t__law_take (t__law_take s (ss.length : Int)).2 (ss.length : Int)) = b at b2 ⊢
  generalize (t__law_take s (ss.length : Int)) = a at b1 ⊢
  refine ⟨setI_len, fun i h h2 => ?_, setI_len, fun i h h2 => ?_, rfl⟩
  · dsimp only at h h2 ⊢
    rw [setI_at b3.1 b3.2 h h2]
    by_cases e : (i : Int) = c'.1
    · rw [if_pos e]
      obtain ⟨z, q⟩ := ix_nat b3.1 b3.2
      have : c'.1.toNat = i := by omega
      exact ⟨_, ix_mem (inB_nat b4.1 b4.2), by rw [q]; simp only [this]⟩
    · rw [if_neg e]
      exact ⟨ls[i], List.getElem_mem h2, rfl⟩
  · dsimp only at h h2 ⊢
    rw [setI_at b1.1 b1.2 h h2]
    by_cases e : (i : Int) = a.1
    · rw [if_pos e]
      obtain ⟨z, q⟩ := ix_nat b1.1 b1.2
      have : a.1.toNat = i := by omega
      exact ⟨_, ix_mem (inB_nat b2.1 b2.2), by rw [q]; simp only [this]⟩
    · rw [if_neg e]
      exact ⟨ss[i], List.getElem_mem h2, rfl⟩
theorem Shr.lm {N N' : Net} (h : Shr N N') : ∀ l ∈ N'.1, ∃ y ∈ N.1, ∃ z ∈ N.1, l = (y.1, z.2) := fun l hl => by
  obtain ⟨i, hi, rfl⟩ := List.mem_iff_getElem.mp hl
  obtain ⟨y, hy, e⟩ := h.la i hi (by rw [← h.l]; exact hi)
  exact ⟨y, hy, _, List.getElem_mem (by rw [← h.l]; exact hi), e⟩
theorem Shr.sm {N N' : Net} (h : Shr N N') : ∀ l ∈ N'.2.1, ∃ y ∈ N.2.1, ∃ z ∈ N.2.1, l = (z.1, z.2.1, y.2.2) := fun l hl => by
  obtain ⟨i, hi, rfl⟩ := List.mem_iff_getElem.mp hl
  obtain ⟨y, hy, e⟩ := h.sa i hi (by rw [← h.s]; exact hi)
  exact ⟨y, hy, _, List.getElem_mem (by rw [← h.s]; exact hi), e⟩
theorem Shr.fst {N N' : Net} (h : Shr N N') : N.2.1.map (·.1) = N'.2.1.map (·.1) := by
  apply List.ext_getElem
  · simp [h.s]
  · intro i h1 h2
    simp only [List.length_map] at h1 h2
    obtain ⟨y, _, e⟩ := h.sa i h2 h1
    simp only [List.getElem_map, e]
theorem Shr.good {N N' : Net} (h : Shr N N') (g : GoodNet N.1 N.2.1 N.2.2) : GoodNet N'.1 N'.2.1 N'.2.2 := by
  have hl := h.l
  have hs := h.s
  refine ⟨by rw [hl]; exact g.l1, by rw [hl]; exact g.l8, by rw [hs]; exact g.s1, by rw [hs]; exact g.s12, fun l hh => ?_, fun st hh => ?_, fun i hi => ?_, ?_⟩
  · obtain ⟨y, hy, z, hz, rfl⟩ := h.lm l hh
    have a := g.ln y hy
    have b := g.ln z hz
    exact ⟨a.n1, a.n6, a.sp, a.up, b.mo, b.r0, b.r9, b.ru⟩
  · obtain ⟨y, hy, z, hz, rfl⟩ := h.sm st hh
    have a := g.st y hy
    have b := g.st z hz
    rw [hl, hs]
    exact ⟨b.l0, b.l1, b.ra, a.wy, a.up, a.le⟩
  · obtain ⟨st, hst, e⟩ := g.us i (by rw [← hl]; exact hi)
    have : st.1 ∈ N'.2.1.map (·.1) := by rw [← h.fst]; exact List.mem_map_of_mem hst
    obtain ⟨st', hst', e'⟩ := List.mem_map.mp this
    exact ⟨st', hst', by rw [e', e]⟩
  · rw [h.c]
    rcases g.cm with ⟨e, r, e2, e3, e4, e5, e6⟩ | ⟨e, n, e2, e3, e4, e5, e6, e7, e8, e9⟩
    · refine .inl ⟨e, r, e2, by rw [hs]; exact e3, e4, e5, ?_⟩
      rcases e6 with e6 | e6
      · exact .inl fun l hh => by obtain ⟨y, hy, z, hz, rfl⟩ := h.lm l hh; exact e6 z hz
      · exact .inr fun l hh => by obtain ⟨y, hy, z, hz, rfl⟩ := h.lm l hh; exact e6 z hz
    · refine .inr ⟨e, n, e2, by rw [hs]; exact e3, e4, e5, e6, fun l hh => ?_, fun st hh => ?_, fun i hi => ?_⟩
      · obtain ⟨y, hy, z, hz, rfl⟩ := h.lm l hh; exact e7 z hz
      · obtain ⟨y, hy, z, hz, rfl⟩ := h.sm st hh; exact e8 y hy
      · obtain ⟨y, hy, q⟩ := h.la i hi (by rw [← hl]; exact hi)
        rw [q, ← begins_fst n N.2.1 N'.2.1 i h.fst]
        exact e9 i (by rw [← hl]; exact hi)
theorem all_map {α : Type} {F : α → D} {p : D → Bool} (xs : List α) (h : ∀ x ∈ xs, p (F x) = true) : (xs.map F).all p = true := by
  rw [List.all_eq_true]
  intro d hd
  obtain ⟨x, hx, rfl⟩ := List.mem_map.mp hd
  exact h x hx
theorem lf_l {α : Type} {F : α → D} (h : ∀ x, (F x).noL = true) (xs : List α) : lfN (.l .z) (eL F xs) = true := by
  show (xs.map F).all (lfN .z) = true
  exact all_map xs fun x _ => h x
theorem lf_line (l : Line) : lfN mkL (eLine l) = true := by
  show (lfN (.l .z) (eL fq l.1) && (lfN .z (fq l.2.1) && (lfN .z (D.int l.2.2.1) && (lfN .z (D.str l.2.2.2) && true)))) = true
  rw [lf_l (fun _ => rfl)]; rfl
theorem lf_stand (s : Stand) : lfN mkS (eStand s) = true := by
  show (lfN .z (D.int s.1) && (lfN .z (fq s.2.1) && (lfN (.l .z) (eL eWay s.2.2) && true))) = true
  rw [lf_l (fun _ => rfl)]; rfl
theorem lf_num (n : Num) : lfN (.l .z) (eNum n) = true := by
  cases n with
  | inl r => exact lf_l (F := fq) (fun _ => rfl) r
  | inr r => exact lf_l (F := D.int) (fun _ => rfl) r
theorem lf_net (N : Net) : lfN mkN (eNet N) = true := by
  show ((N.1.map eLine).all (lfN mkL) && ((N.2.1.map eStand).all (lfN mkS) && ((lfN .z (D.str N.2.2.1) && (lfN (.l .z) (eNum N.2.2.2) && true)) && true))) = true
  rw [all_map _ (fun l _ => lf_line l), all_map _ (fun l _ => lf_stand l), lf_num]; rfl
theorem net_ok {N : Net} (g : GoodNet N.1 N.2.1 N.2.2) : NetOk N := by
  have l1 := g.l1
  have l8 := g.l8
  have s1 := g.s1
  have s12 := g.s12
  have gw : ∀ st ∈ N.2.1, st.2.2.length ≤ 12 := fun st hst => by
    have a := (g.st st hst)
    have := rising_len (n := N.2.1.length) (xs := st.2.2.map (·.1)) (lo := 0) (fun x hx => by
      obtain ⟨w, hw, rfl⟩ := List.mem_map.mp hx
      have := a.wy w hw
      omega) (by rw [List.pairwise_map]; exact a.up) (by decide) (by omega)
    rw [List.length_map] at this
    omega
  have nl : ∃ cs : List D, eNum N.2.2.2 = .lst cs ∧ cs.length ≤ 12 := by
    rcases g.cm with ⟨e, r, e2, e3, _⟩ | ⟨e, n, e2, e3, _⟩
    · exact ⟨r.map fq, by rw [e2]; rfl, by rw [List.length_map]; omega⟩
    · exact ⟨n.map D.int, by rw [e2]; rfl, by rw [List.length_map]; omega⟩
  obtain ⟨cs, ecs, lcs⟩ := nl
  refine ⟨g, okE_net g, ?_, ?_, lf_net N, by omega, by omega⟩
  · obtain ⟨ls, ss, k, n⟩ := N
    dsimp only at *
    cases ls with
    | nil => simp at l1
    | cons l ls =>
      cases ss with
      | nil => simp at s1
      | cons st ss =>
        have a := (g.ln l List.mem_cons_self).n6
        have b := gw st List.mem_cons_self
        have E : eNet ((l :: ls, st :: ss, k, n) : Net) = .tup [.lst (.tup [.lst (l.1.map fq), fq l.2.1, .int l.2.2.1, .str l.2.2.2] :: ls.map eLine), .lst (.tup [.int st.1, fq st.2.1, .lst (st.2.2.map eWay)] :: ss.map eStand), .tup [.str k, .lst cs]] := by
          rw [← ecs]; rfl
        rw [E]
        unfold chOk
        simp only [List.length_cons] at l8 s12
        simp only [Bool.and_eq_true, decide_eq_true_eq, List.length_map]
        omega
  · have E : eNet N = .tup [.lst (N.1.map eLine), .lst (N.2.1.map eStand), .tup [.str N.2.2.1, .lst cs]] := by
      rw [← ecs]; rfl
    rw [E]
    unfold apOk
    simp only [Bool.and_eq_true, decide_eq_true_eq, List.length_map]
    refine ⟨⟨⟨by omega, by omega⟩, all_map _ fun l hl => ?_⟩, all_map _ fun st hst => ?_, by omega⟩
    · have a := (g.ln l hl).n6
      show decide ((l.1.map fq).length < 10000) = true
      rw [List.length_map]; exact decide_eq_true (by omega)
    · have a := gw st hst
      show decide ((st.2.2.map eWay).length < 10000) = true
      rw [List.length_map]; exact decide_eq_true (by omega)
theorem law_true {ns : List Int} : fn_law [D.scr ns] = .ok (.bl true) .ff .non := by
  refine law_ok (ns := ns) fun k _ _ => ?_
  obtain ⟨h1, h2⟩ := drawn_ok (t__law_stream ns k)
  have g : GoodNet (t__law_drawn (t__law_stream ns k)).1.1 (t__law_drawn (t__law_stream ns k)).1.2.1 (t__law_drawn (t__law_stream ns k)).1.2.2 := h2
  have p1 := g.l1
  have p2 := g.s1
  refine ⟨_, (t_shared (t__law_drawn (t__law_stream ns k)).2 (t__law_drawn (t__law_stream ns k)).1).1, _, _, e__law_drawn h1, e_shared (by omega) (by omega), ?_, ?_⟩
  · exact (shr_ok _ (by omega) (by omega)).c
  · exact net_ok ((shr_ok _ (by omega) (by omega)).good g)
end K03
namespace K03
open PySem PySem.Spec PyProof.Rows L2 Dt
namespace Wk
def topS (i : Nat) : Stmt := PySem.Challenge.pw_restlines_k03_nets_made.main.body.getD i (.Pass ⟨0, 0, 0, 0⟩)
abbrev s_common : Stmt := topS 7
abbrev s_fraction : Stmt := topS 8
abbrev s_plus : Stmt := topS 9
abbrev s_is_less : Stmt := topS 10
abbrev s_total : Stmt := topS 11
abbrev s_ask : Stmt := topS 22
abbrev s_ask_fraction : Stmt := topS 23
abbrev s_ask_line : Stmt := topS 24
abbrev s_ask_stand : Stmt := topS 25
abbrev s_ask_rates : Stmt := topS 26
abbrev s_ask_counts : Stmt := topS 27
abbrev s_ask_net : Stmt := topS 28
abbrev s_made_net : Stmt := topS 29
abbrev s__law_stream : Stmt := topS 31
abbrev s__law_take : Stmt := topS 32
abbrev s__law_fraction : Stmt := topS 33
abbrev s__law_some : Stmt := topS 34
abbrev s__law_line : Stmt := topS 35
abbrev s__law_ways : Stmt := topS 36
abbrev s__law_rooms : Stmt := topS 37
abbrev s__law_drawn : Stmt := topS 38
abbrev s__law_deep : Stmt := topS 39
abbrev s__law_change : Stmt := topS 40
abbrev s__law_apart : Stmt := topS 41
abbrev s__law_shared : Stmt := topS 42
abbrev s_law : Stmt := topS 43
structure Txt (K : PySem.W.Frag) (mg : Str → Option Value) : Prop where
  f_common : FnIn K mg "common" s_common
  f_fraction : FnIn K mg "fraction" s_fraction
  f_plus : FnIn K mg "plus" s_plus
  f_is_less : FnIn K mg "is_less" s_is_less
  f_total : FnIn K mg "total" s_total
  f_ask : FnIn K mg "ask" s_ask
  f_ask_fraction : FnIn K mg "ask_fraction" s_ask_fraction
  f_ask_line : FnIn K mg "ask_line" s_ask_line
  f_ask_stand : FnIn K mg "ask_stand" s_ask_stand
  f_ask_rates : FnIn K mg "ask_rates" s_ask_rates
  f_ask_counts : FnIn K mg "ask_counts" s_ask_counts
  f_ask_net : FnIn K mg "ask_net" s_ask_net
  f_made_net : FnIn K mg "made_net" s_made_net
  f__law_stream : FnIn K mg "_law_stream" s__law_stream
  f__law_take : FnIn K mg "_law_take" s__law_take
  f__law_fraction : FnIn K mg "_law_fraction" s__law_fraction
  f__law_some : FnIn K mg "_law_some" s__law_some
  f__law_line : FnIn K mg "_law_line" s__law_line
  f__law_ways : FnIn K mg "_law_ways" s__law_ways
  f__law_rooms : FnIn K mg "_law_rooms" s__law_rooms
  f__law_drawn : FnIn K mg "_law_drawn" s__law_drawn
  f__law_deep : FnIn K mg "_law_deep" s__law_deep
  f_law : FnIn K mg "law" s_law
  f__law_change : FnIn K mg "_law_change" s__law_change
  f__law_apart : FnIn K mg "_law_apart" s__law_apart
  f__law_shared : FnIn K mg "_law_shared" s__law_shared
  b_abs : mg "abs" = none
  b_enumerate : mg "enumerate" = none
  b_int : mg "int" = none
  b_len : mg "len" = none
  b_list : mg "list" = none
  b_max : mg "max" = none
  b_min : mg "min" = none
  b_range : mg "range" = none
  b_sum : mg "sum" = none
  b_zip : mg "zip" = none
  b_isinstance : mg "isinstance" = none
  b_tuple : mg "tuple" = none
  c_MOST_COMERS : CnIn K mg "MOST_COMERS" (.int 8)
  c_MOST_LINES : CnIn K mg "MOST_LINES" (.int 8)
  c_MOST_ROOM : CnIn K mg "MOST_ROOM" (.int 9)
  c_MOST_SPEEDS : CnIn K mg "MOST_SPEEDS" (.int 6)
  c_MOST_STANDS : CnIn K mg "MOST_STANDS" (.int 12)
  c_NOUGHT : CnIn K mg "NOUGHT" (.tup [(.int 0), (.int 1)])
  c_ONE : CnIn K mg "ONE" (.tup [(.int 1), (.int 1)])
  c_OPEN : CnIn K mg "OPEN" (.str "open")
  c_RULES : CnIn K mg "RULES" (.tup [(.str "stay"), (.str "lose"), (.str "skip")])
  c_SHUT : CnIn K mg "SHUT" (.str "shut")
  c_SIZE : CnIn K mg "SIZE" (.int 1000)
  x_NoFraction : ExC K mg "NoFraction"
  x_NoNet : ExC K mg "NoNet"
variable {P : Program} {w : World} {K : PySem.W.Frag} {mg : Str → Option Value} {base : Heap}
theorem sc_common : FnScope ["one", "other"] ["one", "other"] (defScope s_common) := scK
theorem ok_common {P : Program} {w : World} {K : PySem.W.Frag} {mg : Str → Option Value} {base : Heap} (T : Txt K mg) : Ok P w K mg base "common" 33 2 none Std.fn_common := by
  refine okm (fb := Std.fb_common) T.f_common sc_common (fun _ _ _ _ _ _ _ gd hr tk po => ?_)
  exact svs_cons (sv_while po (et_ne hr.units (ev_var 1) ev_int) (svs_one (sv_par (i := 0) (j := 1) rfl sc_common.nd (ea_cons (ev_var 1) (ea_cons (ev_mod (ev_var 0) (ev_var 1)) ea_nil)))))
    (svs_one (sv_ret (eo_move 0)))
theorem sc_fraction : FnScope ["above", "below", "share"] ["above", "below"] (defScope s_fraction) := scK
theorem ok_fraction {P : Program} {w : World} {K : PySem.W.Frag} {mg : Str → Option Value} {base : Heap} (T : Txt K mg) : Ok P w K mg base "fraction" 34 2 none Std.fn_fraction := by
  have g_common := @ok_common P w K mg base T
  refine okm (fb := Std.fb_fraction) T.f_fraction sc_fraction (fun _ _ _ _ _ _ _ gd hr tk po => ?_)
  exact svs_cons (sv_if (et_eq hr.units (ev_var 1) ev_int) (svs_one (sv_raise rfl tk T.x_NoFraction)) svs_nil)
    (svs_cons (sv_set (i := 2) (eo_fn g_common gd hr tk (ex_v (ev_abs T.b_abs (ea_cons (ev_var 0) ea_nil)) (ex_v (ev_abs T.b_abs (ea_cons (ev_var 1) ea_nil)) ex_nil))) sc_fraction.nd)
    (svs_cons (sv_if (et_lt (ev_var 1) ev_int) (svs_one (sv_set (i := 2) (eo_of (ev_sub ev_int (ev_var 2))) sc_fraction.nd)) svs_nil)
    (svs_one (sv_ret (eo_of (ev_tup (ea_cons (ev_fdiv gd hr (by decide) (ev_var 0) (ev_var 2)) (ea_cons (ev_fdiv gd hr (by decide) (ev_var 1) (ev_var 2)) ea_nil))))))))
theorem sc_plus : FnScope ["one", "other"] ["one", "other"] (defScope s_plus) := scK
theorem ok_plus {P : Program} {w : World} {K : PySem.W.Frag} {mg : Str → Option Value} {base : Heap} (T : Txt K mg) : Ok P w K mg base "plus" 35 2 none Std.fn_plus := by
  have g_fraction := @ok_fraction P w K mg base T
  refine okm (fb := Std.fb_plus) T.f_plus sc_plus (fun _ _ _ _ _ _ _ gd hr tk po => ?_)
  exact svs_one (sv_ret (eo_fn g_fraction gd hr tk (ex_v (ev_add (ev_mul (ev_item (ev_var 0) ev_int) (ev_item (ev_var 1) ev_int)) (ev_mul (ev_item (ev_var 1) ev_int) (ev_item (ev_var 0) ev_int))) (ex_v (ev_mul (ev_item (ev_var 0) ev_int) (ev_item (ev_var 1) ev_int)) ex_nil))))
theorem sc_is_less : FnScope ["one", "other"] ["one", "other"] (defScope s_is_less) := scK
theorem ok_is_less {P : Program} {w : World} {K : PySem.W.Frag} {mg : Str → Option Value} {base : Heap} (T : Txt K mg) : Ok P w K mg base "is_less" 33 2 none Std.fn_is_less := by
  refine okm (fb := Std.fb_is_less) T.f_is_less sc_is_less (fun _ _ _ _ _ _ _ gd hr tk po => ?_)
  exact svs_one (sv_ret (eo_of (ev_lt (ev_mul (ev_item (ev_var 0) ev_int) (ev_item (ev_var 1) ev_int)) (ev_mul (ev_item (ev_var 1) ev_int) (ev_item (ev_var 0) ev_int)))))
theorem sc_total : FnScope ["some", "found", "one"] ["some"] (defScope s_total) := scK
theorem ok_total {P : Program} {w : World} {K : PySem.W.Frag} {mg : Str → Option Value} {base : Heap} (T : Txt K mg) : Ok P w K mg base "total" 36 1 none Std.fn_total := by
  have g_plus := @ok_plus P w K mg base T
  refine okm (fb := Std.fb_total) T.f_total sc_total (fun _ _ _ _ _ _ _ gd hr tk po => ?_)
  exact svs_cons (sv_set (i := 1) (eo_of (ev_const T.c_NOUGHT)) sc_total.nd)
    (svs_cons (sv_for po rfl (iv_list (ev_var 0)) (gv_name (i := 2) sc_total.nd) (svs_one (sv_set (i := 1) (eo_fn g_plus gd hr tk (ex_v (ev_var 1) (ex_v (ev_var 2) ex_nil))) sc_total.nd)))
    (svs_one (sv_ret (eo_move 1))))
abbrev N_ask : List Str := ["good", "words"]
theorem sc_ask : FnScope N_ask ["good", "words"] (defScope s_ask) := scK
theorem ok_ask (T : Txt K mg) : Ok P w K mg base "ask" 33 2 none Net.fn_ask := by
  refine okm (fb := Net.fb_ask) T.f_ask sc_ask (fun _ _ _ _ _ _ _ gd hr tk po => ?_)
  exact svs_cons (sv_if (et_not (et_val (ev_var 0))) (svs_one (sv_raiseV rfl tk T.x_NoNet (ev_var 1))) svs_nil)
    svs_nil
abbrev N_ask_fraction : List Str := ["one", "above_nought", "above", "below"]
theorem sc_ask_fraction : FnScope N_ask_fraction ["one", "above_nought"] (defScope s_ask_fraction) := scK
theorem ok_ask_fraction (T : Txt K mg) : Ok P w K mg base "ask_fraction" 34 2 none Net.fn_ask_fraction := by
  have g_ask := @ok_ask P w K mg base T
  have g_common := @ok_common P w K mg base T
  refine okm (fb := Net.fb_ask_fraction) T.f_ask_fraction sc_ask_fraction (fun _ _ _ _ _ _ _ gd hr tk po => ?_)
  exact svs_cons (sv_asg (ev_var 0) (gv_tup rfl (gvs_cons (gv_name (i := 2) sc_ask_fraction.nd) (gvs_cons (gv_name (i := 3) sc_ask_fraction.nd) gvs_nil))))
    (svs_cons (sv_expr (ev_of (eo_fn g_ask gd hr tk (ex_v (ev_and (ev_chain op_le opd_B op_le opd_B ev_int (ev_var 2) (ev_const T.c_SIZE)) (ev_and (ev_chain op_le opd_B op_le opd_B ev_int (ev_var 3) (ev_const T.c_SIZE)) (ev_one (ev_eq hr.units (ev_of (eo_fn g_common gd hr tk (ex_v (ev_var 2) (ex_v (ev_var 3) ex_nil)))) ev_int)))) (ex_v ev_str ex_nil)))))
    (svs_cons (sv_expr (ev_of (eo_fn g_ask gd hr tk (ex_v (ev_or (ev_gt (ev_var 2) ev_int) (ev_one (ev_not (ev_var 1)))) (ex_v ev_str ex_nil)))))
    svs_nil))
abbrev N_ask_line : List Str := ["line", "one", "speeds", "more", "room", "rule", "other"]
theorem sc_ask_line : FnScope N_ask_line ["line"] (defScope s_ask_line) := scK
theorem ok_ask_line (T : Txt K mg) : Ok P w K mg base "ask_line" 35 1 none Net.fn_ask_line := by
  have g_ask := @ok_ask P w K mg base T
  have g_ask_fraction := @ok_ask_fraction P w K mg base T
  have g_is_less := @ok_is_less P w K mg base T
  refine okm (fb := Net.fb_ask_line) T.f_ask_line sc_ask_line (fun _ _ _ _ _ _ _ gd hr tk po => ?_)
  exact svs_cons (sv_asg (ev_var 0) (gv_tup rfl (gvs_cons (gv_name (i := 2) sc_ask_line.nd) (gvs_cons (gv_name (i := 3) sc_ask_line.nd) (gvs_cons (gv_name (i := 4) sc_ask_line.nd) (gvs_cons (gv_name (i := 5) sc_ask_line.nd) gvs_nil))))))
    (svs_cons (sv_expr (ev_of (eo_fn g_ask gd hr tk (ex_v (ev_chain op_le opd_B op_le opd_B ev_int (ev_len T.b_len (ea_cons (ev_var 2) ea_nil)) (ev_const T.c_MOST_SPEEDS)) (ex_v ev_str ex_nil)))))
    (svs_cons (sv_for po rfl (iv_list (ev_var 2)) (gv_name (i := 1) sc_ask_line.nd) (svs_cons (sv_expr (ev_of (eo_fn g_ask_fraction gd hr tk (ex_v (ev_var 1) (ex_v ev_bl ex_nil)))))
    (svs_kill (is := [1]) svs_nil)))
    (svs_cons (sv_for po rfl (iv_zip T.b_zip (ea_cons (ev_of (eo_slice (ev_var 2) ep_none (ep_some (ev_neg ev_int)))) (ea_cons (ev_of (eo_slice (ev_var 2) (ep_some ev_int) ep_none)) ea_nil))) (gv_tup rfl (gvs_cons (gv_name (i := 1) sc_ask_line.nd) (gvs_cons (gv_name (i := 6) sc_ask_line.nd) gvs_nil))) (svs_cons (sv_expr (ev_of (eo_fn g_ask gd hr tk (ex_v (ev_not (ev_of (eo_fn g_is_less gd hr tk (ex_v (ev_var 6) (ex_v (ev_var 1) ex_nil))))) (ex_v ev_str ex_nil)))))
    (svs_kill (is := [1, 6]) svs_nil)))
    (svs_cons (sv_expr (ev_of (eo_fn g_ask_fraction gd hr tk (ex_v (ev_var 3) (ex_v ev_bl ex_nil)))))
    (svs_cons (sv_expr (ev_of (eo_fn g_ask gd hr tk (ex_v (ev_chain op_le opd_B op_le opd_B ev_int (ev_var 4) (ev_const T.c_MOST_ROOM)) (ex_v ev_str ex_nil)))))
    (svs_cons (sv_if (et_eq hr.units (ev_var 4) ev_int) (svs_cons (sv_expr (ev_of (eo_fn g_ask gd hr tk (ex_v (ev_eq hr.units (ev_var 5) ev_str) (ex_v ev_str ex_nil)))))
    svs_nil) (svs_cons (sv_expr (ev_of (eo_fn g_ask gd hr tk (ex_v (ev_in (ev_var 5) (ev_const T.c_RULES)) (ex_v ev_str ex_nil)))))
    svs_nil))
    svs_nil))))))
abbrev N_ask_stand : List Str := ["stand", "lines", "many", "last", "line", "rate", "goes", "to", "share"]
theorem sc_ask_stand : FnScope N_ask_stand ["stand", "lines", "many"] (defScope s_ask_stand) := scK
theorem ok_ask_stand (T : Txt K mg) : Ok P w K mg base "ask_stand" 37 3 none Net.fn_ask_stand := by
  have g_ask := @ok_ask P w K mg base T
  have g_ask_fraction := @ok_ask_fraction P w K mg base T
  have g_is_less := @ok_is_less P w K mg base T
  have g_total := @ok_total P w K mg base T
  refine okm (fb := Net.fb_ask_stand) T.f_ask_stand sc_ask_stand (fun _ _ _ _ _ _ _ gd hr tk po => ?_)
  exact svs_cons (sv_asg (ev_var 0) (gv_tup rfl (gvs_cons (gv_name (i := 4) sc_ask_stand.nd) (gvs_cons (gv_name (i := 5) sc_ask_stand.nd) (gvs_cons (gv_name (i := 6) sc_ask_stand.nd) gvs_nil)))))
    (svs_cons (sv_expr (ev_of (eo_fn g_ask gd hr tk (ex_v (ev_chain op_le opd_B op_lt opd_B ev_int (ev_var 4) (ev_var 1)) (ex_v ev_str ex_nil)))))
    (svs_cons (sv_expr (ev_of (eo_fn g_ask_fraction gd hr tk (ex_v (ev_var 5) (ex_v ev_bl ex_nil)))))
    (svs_cons (sv_set (i := 3) (eo_of (ev_neg ev_int)) sc_ask_stand.nd)
    (svs_cons (sv_for po rfl (iv_list (ev_var 6)) (gv_tup rfl (gvs_cons (gv_name (i := 7) sc_ask_stand.nd) (gvs_cons (gv_name (i := 8) sc_ask_stand.nd) gvs_nil))) (svs_cons (sv_expr (ev_of (eo_fn g_ask gd hr tk (ex_v (ev_chain op_lt opd_B op_lt opd_B (ev_var 3) (ev_var 7) (ev_var 2)) (ex_v ev_str ex_nil)))))
    (svs_cons (sv_expr (ev_of (eo_fn g_ask_fraction gd hr tk (ex_v (ev_var 8) (ex_v ev_bl ex_nil)))))
    (svs_cons (sv_set (i := 3) (eo_of (ev_var 7)) sc_ask_stand.nd)
    (svs_kill (is := [7, 8]) svs_nil)))))
    (svs_cons (sv_expr (ev_of (eo_fn g_ask gd hr tk (ex_v (ev_not (ev_of (eo_fn g_is_less gd hr tk (ex_v (ev_const T.c_ONE) (ex_v (ev_of (eo_fn g_total gd hr tk (ex_v (ev_of (eo_lc (own := [("to", 7), ("share", 8)]) rfl sc_ask_stand.nd (iv_list (ev_var 6)) bO (fun _ _ _ _ _ => gv_tup rfl (gvs_cons (gv_name (i := 7) sc_ask_stand.nd) (gvs_cons (gv_name (i := 8) sc_ask_stand.nd) gvs_nil))) (fun _ _ _ _ _ => ets_nil) (fun _ _ _ _ _ => ev_var 8))) ex_nil))) ex_nil))))) (ex_v ev_str ex_nil)))))
    svs_nil)))))
abbrev N_ask_rates : List Str := ["lines", "rates", "one", "rooms", "line"]
theorem sc_ask_rates : FnScope N_ask_rates ["lines", "rates"] (defScope s_ask_rates) := scK
theorem ok_ask_rates (T : Txt K mg) : Ok P w K mg base "ask_rates" 35 2 none Net.fn_ask_rates := by
  have g_ask_fraction := @ok_ask_fraction P w K mg base T
  have g_ask := @ok_ask P w K mg base T
  refine okm (fb := Net.fb_ask_rates) T.f_ask_rates sc_ask_rates (fun _ _ _ _ _ _ _ gd hr tk po => ?_)
  exact svs_cons (sv_for po rfl (iv_list (ev_var 1)) (gv_name (i := 2) sc_ask_rates.nd) (svs_cons (sv_expr (ev_of (eo_fn g_ask_fraction gd hr tk (ex_v (ev_var 2) (ex_v ev_bl ex_nil)))))
    (svs_kill (is := [2]) svs_nil)))
    (svs_cons (sv_expr (ev_of (eo_fn g_ask gd hr tk (ex_v (ev_ne hr.units (ev_of (eo_lc (own := [("one", 2)]) rfl sc_ask_rates.nd (iv_list (ev_var 1)) bO (fun _ _ _ _ _ => gv_name (i := 2) sc_ask_rates.nd) (fun _ _ _ _ _ => ets_one (et_ne hr.units (ev_var 2) (ev_const T.c_NOUGHT))) (fun _ _ _ _ _ => ev_var 2))) (ev_of (eo_lst ea_nil))) (ex_v ev_str ex_nil)))))
    (svs_cons (sv_setLc (i := 3) (own := [("line", 4)]) rfl sc_ask_rates.nd (iv_list (ev_var 0)) bO (fun _ _ _ _ _ => gv_name (i := 4) sc_ask_rates.nd) (fun _ _ _ _ _ => ets_nil) (fun _ _ _ _ _ => ev_item (ev_var 4) ev_int) (sw_true rfl rfl rfl (by decide +kernel)))
    (svs_frz (i := 3) (svs_cons (sv_if (et_eq hr.units (ev_maxL rfl T.b_max (ea_cons (ev_var 3) ea_nil)) ev_int) (svs_cons (sv_expr (ev_of (eo_fn g_ask gd hr tk (ex_v (ev_eq hr.units (ev_of (eo_lc (own := [("line", 4)]) rfl sc_ask_rates.nd (iv_list (ev_var 0)) bO (fun _ _ _ _ _ => gv_name (i := 4) sc_ask_rates.nd) (fun _ _ _ _ _ => ets_one (et_ne hr.units (ev_item (ev_var 4) ev_int) (ev_const T.c_NOUGHT))) (fun _ _ _ _ _ => ev_var 4))) (ev_of (eo_lst ea_nil))) (ex_v ev_str ex_nil)))))
    svs_nil) (svs_cons (sv_expr (ev_of (eo_fn g_ask gd hr tk (ex_v (ev_gt (ev_minL rfl T.b_min (ea_cons (ev_var 3) ea_nil)) ev_int) (ex_v ev_str ex_nil)))))
    svs_nil))
    svs_nil))))
abbrev N_ask_counts : List Str := ["lines", "stands", "counts", "stand", "number", "line", "many", "count", "to", "share"]
theorem sc_ask_counts : FnScope N_ask_counts ["lines", "stands", "counts"] (defScope s_ask_counts) := scK
theorem ok_ask_counts (T : Txt K mg) : Ok P w K mg base "ask_counts" 37 3 none Net.fn_ask_counts := by
  have g_ask := @ok_ask P w K mg base T
  have g_total := @ok_total P w K mg base T
  refine okm (fb := Net.fb_ask_counts) T.f_ask_counts sc_ask_counts (fun _ _ _ _ _ _ _ gd hr tk po => ?_)
  exact svs_cons (sv_expr (ev_of (eo_fn g_ask gd hr tk (ex_v (ev_and (ev_ge (ev_minL rfl T.b_min (ea_cons (ev_var 2) ea_nil)) ev_int) (ev_one (ev_chain op_le opd_B op_le opd_B ev_int (ev_sum rfl T.b_sum (ea_cons (ev_var 2) ea_nil)) (ev_const T.c_MOST_COMERS)))) (ex_v ev_str ex_nil)))))
    (svs_cons (sv_expr (ev_of (eo_fn g_ask gd hr tk (ex_v (ev_eq hr.units (ev_of (eo_lc (own := [("line", 5)]) rfl sc_ask_counts.nd (iv_list (ev_var 0)) bO (fun _ _ _ _ _ => gv_name (i := 5) sc_ask_counts.nd) (fun _ _ _ _ _ => ets_one (et_eq hr.units (ev_item (ev_var 5) ev_int) ev_str)) (fun _ _ _ _ _ => ev_var 5))) (ev_of (eo_lst ea_nil))) (ex_v ev_str ex_nil)))))
    (svs_cons (sv_for po rfl (iv_list (ev_var 1)) (gv_name (i := 3) sc_ask_counts.nd) (svs_cons (sv_expr (ev_of (eo_fn g_ask gd hr tk (ex_v (ev_eq hr.units (ev_of (eo_fn g_total gd hr tk (ex_v (ev_of (eo_lc (own := [("to", 8), ("share", 9)]) rfl sc_ask_counts.nd (iv_list (ev_item (ev_var 3) ev_int)) bO (fun _ _ _ _ _ => gv_tup rfl (gvs_cons (gv_name (i := 8) sc_ask_counts.nd) (gvs_cons (gv_name (i := 9) sc_ask_counts.nd) gvs_nil))) (fun _ _ _ _ _ => ets_nil) (fun _ _ _ _ _ => ev_var 9))) ex_nil))) (ev_const T.c_ONE)) (ex_v ev_str ex_nil)))))
    (svs_kill (is := [3]) svs_nil)))
    (svs_cons (sv_for po rfl (iv_enum T.b_enumerate (ea_cons (ev_var 0) ea_nil)) (gv_tup rfl (gvs_cons (gv_name (i := 4) sc_ask_counts.nd) (gvs_cons (gv_name (i := 5) sc_ask_counts.nd) gvs_nil))) (svs_cons (sv_set (i := 6) (eo_of (ev_sum rfl T.b_sum (ea_cons (ev_of (eo_lc (own := [("count", 7), ("stand", 3)]) rfl sc_ask_counts.nd (iv_zip T.b_zip (ea_cons (ev_var 2) (ea_cons (ev_var 1) ea_nil))) bO (fun _ _ _ _ _ => gv_tup rfl (gvs_cons (gv_name (i := 7) sc_ask_counts.nd) (gvs_cons (gv_name (i := 3) sc_ask_counts.nd) gvs_nil))) (fun _ _ _ _ _ => ets_one (et_eq hr.units (ev_item (ev_var 3) ev_int) (ev_var 4))) (fun _ _ _ _ _ => ev_var 7))) ea_nil))) sc_ask_counts.nd)
    (svs_cons (sv_expr (ev_of (eo_fn g_ask gd hr tk (ex_v (ev_or (ev_eq hr.units (ev_item (ev_var 5) ev_int) ev_int) (ev_one (ev_le (ev_var 6) (ev_item (ev_var 5) ev_int)))) (ex_v ev_str ex_nil)))))
    (svs_kill (is := [4, 5, 6]) svs_nil))))
    svs_nil)))
abbrev N_ask_net : List Str := ["lines", "stands", "comers", "line", "stand", "used", "kind", "numbers"]
theorem sc_ask_net : FnScope N_ask_net ["lines", "stands", "comers"] (defScope s_ask_net) := scK
theorem ok_ask_net (T : Txt K mg) : Ok P w K mg base "ask_net" 38 3 none Net.fn_ask_net := by
  have g_ask := @ok_ask P w K mg base T
  have g_ask_line := @ok_ask_line P w K mg base T
  have g_ask_stand := @ok_ask_stand P w K mg base T
  have g_ask_rates := @ok_ask_rates P w K mg base T
  have g_ask_counts := @ok_ask_counts P w K mg base T
  refine okm (fb := Net.fb_ask_net) T.f_ask_net sc_ask_net (fun _ _ _ _ _ _ _ gd hr tk po => ?_)
  exact svs_cons (sv_expr (ev_of (eo_fn g_ask gd hr tk (ex_v (ev_and (ev_chain op_le opd_B op_le opd_B ev_int (ev_len T.b_len (ea_cons (ev_var 0) ea_nil)) (ev_const T.c_MOST_LINES)) (ev_one (ev_chain op_le opd_B op_le opd_B ev_int (ev_len T.b_len (ea_cons (ev_var 1) ea_nil)) (ev_const T.c_MOST_STANDS)))) (ex_v ev_str ex_nil)))))
    (svs_cons (sv_for po rfl (iv_list (ev_var 0)) (gv_name (i := 3) sc_ask_net.nd) (svs_cons (sv_expr (ev_of (eo_fn g_ask_line gd hr tk (ex_v (ev_var 3) ex_nil))))
    (svs_kill (is := [3]) svs_nil)))
    (svs_cons (sv_for po rfl (iv_list (ev_var 1)) (gv_name (i := 4) sc_ask_net.nd) (svs_cons (sv_expr (ev_of (eo_fn g_ask_stand gd hr tk (ex_v (ev_var 4) (ex_v (ev_len T.b_len (ea_cons (ev_var 0) ea_nil)) (ex_v (ev_len T.b_len (ea_cons (ev_var 1) ea_nil)) ex_nil))))))
    (svs_kill (is := [4]) svs_nil)))
    (svs_cons (sv_set (i := 5) (eo_lc (own := [("stand", 4)]) rfl sc_ask_net.nd (iv_list (ev_var 1)) bO (fun _ _ _ _ _ => gv_name (i := 4) sc_ask_net.nd) (fun _ _ _ _ _ => ets_nil) (fun _ _ _ _ _ => ev_item (ev_var 4) ev_int)) sc_ask_net.nd)
    (svs_frz (i := 5) (svs_cons (sv_expr (ev_of (eo_fn g_ask gd hr tk (ex_v (ev_eq hr.units (ev_of (eo_lc (own := [("line", 3)]) rfl sc_ask_net.nd (iv_range1 rfl T.b_range (ea_cons (ev_len T.b_len (ea_cons (ev_var 0) ea_nil)) ea_nil)) bO (fun _ _ _ _ _ => gv_name (i := 3) sc_ask_net.nd) (fun _ _ _ _ _ => ets_one (et_notin (ev_var 3) (ev_var 5))) (fun _ _ _ _ _ => ev_var 3))) (ev_of (eo_lst ea_nil))) (ex_v ev_str ex_nil)))))
    (svs_cons (sv_asg (ev_var 2) (gv_tup rfl (gvs_cons (gv_name (i := 6) sc_ask_net.nd) (gvs_cons (gv_name (i := 7) sc_ask_net.nd) gvs_nil))))
    (svs_cons (sv_expr (ev_of (eo_fn g_ask gd hr tk (ex_v (ev_and (ev_in (ev_var 6) (ev_tup (ea_cons (ev_const T.c_OPEN) (ea_cons (ev_const T.c_SHUT) ea_nil)))) (ev_one (ev_eq hr.units (ev_len T.b_len (ea_cons (ev_var 7) ea_nil)) (ev_len T.b_len (ea_cons (ev_var 1) ea_nil))))) (ex_v ev_str ex_nil)))))
    (svs_cons (sv_if (et_eq hr.units (ev_var 6) (ev_const T.c_OPEN)) (svs_cons (sv_expr (ev_of (eo_fn g_ask_rates gd hr tk (ex_v (ev_var 0) (ex_v (ev_var 7) ex_nil)))))
    svs_nil) (svs_cons (sv_expr (ev_of (eo_fn g_ask_counts gd hr tk (ex_v (ev_var 0) (ex_v (ev_var 1) (ex_v (ev_var 7) ex_nil))))))
    svs_nil))
    svs_nil))))))))
abbrev N_made_net : List Str := ["lines", "stands", "comers", "made", "speeds", "more", "room", "rule", "line", "rate", "goes"]
theorem sc_made_net : FnScope N_made_net ["lines", "stands", "comers"] (defScope s_made_net) := scK
theorem ok_made_net (T : Txt K mg) : Ok P w K mg base "made_net" 39 3 none Net.fn_made_net := by
  have g_ask_net := @ok_ask_net P w K mg base T
  refine okm (fb := Net.fb_made_net) T.f_made_net sc_made_net (fun _ _ _ _ _ _ _ gd hr tk po => ?_)
  exact svs_cons (sv_expr (ev_of (eo_fn g_ask_net gd hr tk (ex_v (ev_var 0) (ex_v (ev_var 1) (ex_v (ev_var 2) ex_nil))))))
    (svs_cons (sv_setLc (i := 3) (own := [("speeds", 4), ("more", 5), ("room", 6), ("rule", 7)]) rfl sc_made_net.nd (iv_list (ev_var 0)) bO (fun _ _ _ _ _ => gv_tup rfl (gvs_cons (gv_name (i := 4) sc_made_net.nd) (gvs_cons (gv_name (i := 5) sc_made_net.nd) (gvs_cons (gv_name (i := 6) sc_made_net.nd) (gvs_cons (gv_name (i := 7) sc_made_net.nd) gvs_nil))))) (fun _ _ _ _ _ => ets_nil) (fun _ _ _ _ _ => ev_tup (ea_cons (ev_of (eo_listOf T.b_list (ea_cons (ev_var 4) ea_nil))) (ea_cons (ev_var 5) (ea_cons (ev_var 6) (ea_cons (ev_var 7) ea_nil))))) (sw_true rfl rfl rfl (by decide +kernel)))
    (svs_frz (i := 3) (svs_one (sv_ret (eo_of (ev_tup (ea_cons (ev_var 3) (ea_cons (ev_of (eo_lc (own := [("line", 8), ("rate", 9), ("goes", 10)]) rfl sc_made_net.nd (iv_list (ev_var 1)) bO (fun _ _ _ _ _ => gv_tup rfl (gvs_cons (gv_name (i := 8) sc_made_net.nd) (gvs_cons (gv_name (i := 9) sc_made_net.nd) (gvs_cons (gv_name (i := 10) sc_made_net.nd) gvs_nil)))) (fun _ _ _ _ _ => ets_nil) (fun _ _ _ _ _ => ev_tup (ea_cons (ev_var 8) (ea_cons (ev_var 9) (ea_cons (ev_of (eo_listOf T.b_list (ea_cons (ev_var 10) ea_nil))) ea_nil)))))) (ea_cons (ev_tup (ea_cons (ev_item (ev_var 2) ev_int) (ea_cons (ev_of (eo_listOf T.b_list (ea_cons (ev_item (ev_var 2) ev_int) ea_nil))) ea_nil))) ea_nil)))))))))
theorem sc__law_stream : FnScope ["_law_script", "_law_k", "_law_cell", "_law_mixed"] ["_law_script", "_law_k"] (defScope s__law_stream) := scK
theorem ok__law_stream {P : Program} {w : World} {K : PySem.W.Frag} {mg : Str → Option Value} {base : Heap} (T : Txt K mg) : Ok P w K mg base "_law_stream" 33 2 none Std.fn__law_stream := by
  refine okm (fb := Std.fb__law_stream) T.f__law_stream sc__law_stream (fun _ _ _ _ _ _ _ gd hr tk po => ?_)
  exact svs_cons (sv_if (et_lt (ev_var 1) (ev_len T.b_len (ea_cons (ev_var 0) ea_nil))) (svs_cons (sv_set (i := 2) (eo_of (ev_item (ev_var 0) (ev_var 1))) sc__law_stream.nd)
    (svs_cons (sv_set (i := 3) (eo_of (ev_add (ev_add (ev_mod (ev_var 2) ev_int) (ev_mul (ev_var 1) (ev_var 1))) ev_int)) sc__law_stream.nd)
    (svs_cons (sv_if (et_lt (ev_var 2) (ev_pow ev_int ev_int)) (svs_one (sv_set (i := 2) (eo_of ev_int) sc__law_stream.nd)) svs_nil)
    (svs_one (sv_ret (eo_lst (ea_cons (ev_var 2) (ea_cons (ev_var 3) ea_nil)))))))) svs_nil)
    (svs_one (sv_ret (eo_lst (ea_cons ev_int (ea_cons (ev_add (ev_mul (ev_var 1) (ev_var 1)) ev_int) ea_nil)))))
theorem sc__law_take : FnScope ["_law_stream_here", "_law_most", "_law_digit"] ["_law_stream_here", "_law_most"] (defScope s__law_take) := scK
theorem ok__law_take {P : Program} {w : World} {K : PySem.W.Frag} {mg : Str → Option Value} {base : Heap} (T : Txt K mg) : Ok P w K mg base "_law_take" 33 2 (some 0) Std.fn__law_take := by
  refine okm (fb := Std.fb__law_take) T.f__law_take sc__law_take (fun _ _ _ _ _ _ _ gd hr tk po => ?_)
  exact svs_cons (sv_if (et_eq hr.units (ev_peek (i := 0) ev_int) ev_int) (svs_cons (sv_putAt (i := 0) (ev_mod (ev_add (ev_mul (ev_peek (i := 0) ev_int) ev_int) ev_int) ev_int) ev_int)
    (svs_one (sv_ret (eo_of (ev_mod (ev_mod (ev_mul (ev_peek (i := 0) ev_int) (ev_peek (i := 0) ev_int)) ev_int) (ev_var 1)))))) svs_nil)
    (svs_cons (sv_set (i := 2) (eo_of (ev_mod (ev_peek (i := 0) ev_int) (ev_var 1))) sc__law_take.nd)
    (svs_cons (sv_putAt (i := 0) (ev_fdiv gd hr (by decide) (ev_peek (i := 0) ev_int) (ev_var 1)) ev_int)
    (svs_one (sv_ret (eo_move 2)))))
theorem sc__law_fraction : FnScope ["_law_above", "_law_below", "_law_one", "_law_other"] ["_law_above", "_law_below"] (defScope s__law_fraction) := scK
theorem ok__law_fraction {P : Program} {w : World} {K : PySem.W.Frag} {mg : Str → Option Value} {base : Heap} (T : Txt K mg) : Ok P w K mg base "_law_fraction" 33 2 none Std.fn__law_fraction := by
  refine okm (fb := Std.fb__law_fraction) T.f__law_fraction sc__law_fraction (fun _ _ _ _ _ _ _ gd hr tk po => ?_)
  exact svs_cons (sv_set (i := 2) (eo_of (ev_abs T.b_abs (ea_cons (ev_var 0) ea_nil))) sc__law_fraction.nd)
    (svs_cons (sv_set (i := 3) (eo_of (ev_var 1)) sc__law_fraction.nd)
    (svs_cons (sv_while po (et_gt (ev_var 3) ev_int) (svs_one (sv_par (i := 2) (j := 3) rfl sc__law_fraction.nd (ea_cons (ev_var 3) (ea_cons (ev_mod (ev_var 2) (ev_var 3)) ea_nil)))))
    (svs_one (sv_ret (eo_of (ev_tup (ea_cons (ev_fdiv gd hr (by decide) (ev_var 0) (ev_var 2)) (ea_cons (ev_fdiv gd hr (by decide) (ev_var 1) (ev_var 2)) ea_nil))))))))
abbrev N__law_some : List Str := ["_law_stream_here"]
theorem sc__law_some : FnScope N__law_some ["_law_stream_here"] (defScope s__law_some) := scK
theorem ok__law_some (T : Txt K mg) : Ok P w K mg base "_law_some" 34 1 (some 0) fn__law_some := by
  have g__law_take := @ok__law_take P w K mg base T
  have g__law_fraction := @ok__law_fraction P w K mg base T
  refine okm (fb := fb__law_some) T.f__law_some sc__law_some (fun _ _ _ _ _ _ _ gd hr tk po => ?_)
  exact svs_cons (sv_if (et_eq hr.units (ev_of (eo_fn g__law_take gd hr tk (ex_s 0 (ex_v ev_int ex_nil)))) ev_int) (svs_one (sv_ret (eo_fn g__law_fraction gd hr tk (ex_v (ev_add ev_int (ev_of (eo_fn g__law_take gd hr tk (ex_s 0 (ex_v ev_int ex_nil))))) (ex_v (ev_add ev_int (ev_of (eo_fn g__law_take gd hr tk (ex_s 0 (ex_v ev_int ex_nil))))) ex_nil))))) svs_nil)
    (svs_one (sv_ret (eo_fn g__law_fraction gd hr tk (ex_v (ev_add ev_int (ev_of (eo_fn g__law_take gd hr tk (ex_s 0 (ex_v ev_int ex_nil))))) (ex_v (ev_add ev_int (ev_of (eo_fn g__law_take gd hr tk (ex_s 0 (ex_v ev_int ex_nil))))) ex_nil)))))
abbrev N__law_line : List Str := ["_law_stream_here", "_law_kind", "_law_speeds", "_law_k", "_law_below", "_law_more", "_law_room", "_law_rule", "_law_one"]
theorem sc__law_line : FnScope N__law_line ["_law_stream_here", "_law_kind"] (defScope s__law_line) := scK
theorem ok__law_line (T : Txt K mg) : Ok P w K mg base "_law_line" 35 2 (some 0) fn__law_line := by
  have g__law_take := @ok__law_take P w K mg base T
  have g__law_some := @ok__law_some P w K mg base T
  have g__law_fraction := @ok__law_fraction P w K mg base T
  refine okm (fb := fb__law_line) T.f__law_line sc__law_line (fun _ _ _ _ _ _ _ gd hr tk po => ?_)
  exact svs_cons (sv_set (i := 2) (eo_lst (ea_cons (ev_add ev_int (ev_of (eo_fn g__law_take gd hr tk (ex_s 0 (ex_v ev_int ex_nil))))) ea_nil)) sc__law_line.nd)
    (svs_cons (sv_for po rfl (iv_range1 rfl T.b_range (ea_cons (ev_of (eo_fn g__law_take gd hr tk (ex_s 0 (ex_v ev_int ex_nil)))) ea_nil)) (gv_name (i := 3) sc__law_line.nd) (svs_cons (sv_app (i := 2) (ev_add (ev_peek (i := 2) (ev_neg ev_int)) (ev_of (eo_fn g__law_take gd hr tk (ex_s 0 (ex_v ev_int ex_nil))))))
    (svs_kill (is := [3]) svs_nil)))
    (svs_cons (sv_set (i := 4) (eo_of (ev_add ev_int (ev_of (eo_fn g__law_take gd hr tk (ex_s 0 (ex_v ev_int ex_nil)))))) sc__law_line.nd)
    (svs_cons (sv_set (i := 5) (eo_of (ev_tup (ea_cons ev_int (ea_cons ev_int ea_nil)))) sc__law_line.nd)
    (svs_cons (sv_if (et_w (ew_and (et_ne hr.units (ev_var 1) ev_str) (ew_and1 (et_eq hr.units (ev_of (eo_fn g__law_take gd hr tk (ex_s 0 (ex_v ev_int ex_nil)))) ev_int)))) (svs_cons (sv_set (i := 5) (eo_fn g__law_some gd hr tk (ex_s 0 ex_nil)) sc__law_line.nd)
    svs_nil) svs_nil)
    (svs_cons (sv_set (i := 6) (eo_of ev_int) sc__law_line.nd)
    (svs_cons (sv_set (i := 7) (eo_of ev_str) sc__law_line.nd)
    (svs_cons (sv_if (et_eq hr.units (ev_var 1) ev_str) (svs_cons (sv_set (i := 6) (eo_of (ev_add ev_int (ev_of (eo_fn g__law_take gd hr tk (ex_s 0 (ex_v ev_int ex_nil)))))) sc__law_line.nd)
    (svs_cons (sv_set (i := 7) (eo_of (ev_item (ev_of (eo_lst (ea_cons ev_str (ea_cons ev_str (ea_cons ev_str ea_nil))))) (ev_of (eo_fn g__law_take gd hr tk (ex_s 0 (ex_v ev_int ex_nil)))))) sc__law_line.nd)
    svs_nil)) svs_nil)
    (svs_frz (i := 2) (svs_one (sv_ret (eo_of (ev_tup (ea_cons (ev_of (eo_lc (own := [("_law_one", 8)]) rfl sc__law_line.nd (iv_list (ev_var 2)) bO (fun _ _ _ _ _ => gv_name (i := 8) sc__law_line.nd) (fun _ _ _ _ _ => ets_nil) (fun _ _ _ _ _ => ev_of (eo_fn g__law_fraction gd hr takes0 (ex_v (ev_var 8) (ex_v (ev_var 4) ex_nil)))))) (ea_cons (ev_var 5) (ea_cons (ev_var 6) (ea_cons (ev_var 7) ea_nil))))))))))))))))
abbrev N__law_ways : List Str := ["_law_stream_here", "_law_stands", "_law_all_stay", "_law_some_here", "_law_own", "_law_below", "_law_to", "_law_one"]
theorem sc__law_ways : FnScope N__law_ways ["_law_stream_here", "_law_stands", "_law_all_stay"] (defScope s__law_ways) := scK
theorem ok__law_ways (T : Txt K mg) : Ok P w K mg base "_law_ways" 34 3 (some 0) fn__law_ways := by
  have g__law_take := @ok__law_take P w K mg base T
  have g__law_fraction := @ok__law_fraction P w K mg base T
  refine okm (fb := fb__law_ways) T.f__law_ways sc__law_ways (fun _ _ _ _ _ _ _ gd hr tk po => ?_)
  exact svs_cons (sv_setLc (i := 3) (own := [("_law_to", 6)]) rfl sc__law_ways.nd (iv_range1 rfl T.b_range (ea_cons (ev_var 1) ea_nil)) bO (fun _ _ _ _ _ => gv_name (i := 6) sc__law_ways.nd) (fun _ _ _ _ _ => ets_one (et_eq hr.units (ev_of (eo_fn g__law_take gd hr takes0 (ex_s 0 (ex_v ev_int ex_nil)))) ev_int)) (fun _ _ _ _ _ => ev_var 6) (sw_true rfl rfl rfl (by decide +kernel)))
    (svs_frz (i := 3) (svs_cons (sv_if (et_w (ew_and (et_val (ev_var 2)) (ew_and1 (et_eq hr.units (ev_var 3) (ev_of (eo_lst ea_nil)))))) (svs_cons (sv_set (i := 3) (eo_lst (ea_cons (ev_of (eo_fn g__law_take gd hr tk (ex_s 0 (ex_v (ev_var 1) ex_nil)))) ea_nil)) sc__law_ways.nd)
    (svs_frz (i := 3) svs_nil)) svs_nil)
    (svs_cons (sv_setLc (i := 4) (own := [("_law_to", 6)]) rfl sc__law_ways.nd (iv_list (ev_var 3)) bO (fun _ _ _ _ _ => gv_name (i := 6) sc__law_ways.nd) (fun _ _ _ _ _ => ets_nil) (fun _ _ _ _ _ => ev_add ev_int (ev_of (eo_fn g__law_take gd hr takes0 (ex_s 0 (ex_v ev_int ex_nil))))) (sw_true rfl rfl rfl (by decide +kernel)))
    (svs_frz (i := 4) (svs_cons (sv_set (i := 5) (eo_of (ev_add (ev_sum rfl T.b_sum (ea_cons (ev_var 4) ea_nil)) (ev_mul (ev_of (eo_fn g__law_take gd hr tk (ex_s 0 (ex_v ev_int ex_nil)))) (ev_intOf T.b_int (ea_cons (ev_not (ev_var 2)) ea_nil))))) sc__law_ways.nd)
    (svs_one (sv_ret (eo_lc (own := [("_law_to", 6), ("_law_one", 7)]) rfl sc__law_ways.nd (iv_zip T.b_zip (ea_cons (ev_var 3) (ea_cons (ev_var 4) ea_nil))) bO (fun _ _ _ _ _ => gv_tup rfl (gvs_cons (gv_name (i := 6) sc__law_ways.nd) (gvs_cons (gv_name (i := 7) sc__law_ways.nd) gvs_nil))) (fun _ _ _ _ _ => ets_nil) (fun _ _ _ _ _ => ev_tup (ea_cons (ev_var 6) (ea_cons (ev_of (eo_fn g__law_fraction gd hr takes0 (ex_v (ev_var 7) (ex_v (ev_var 5) ex_nil)))) ea_nil)))))))))))
abbrev N__law_rooms : List Str := ["_law_stream_here", "_law_lines", "_law_stands", "_law_counts", "_law_found", "_law_number", "_law_line_here", "_law_begins", "_law_room", "_law_count", "_law_stand"]
theorem sc__law_rooms : FnScope N__law_rooms ["_law_stream_here", "_law_lines", "_law_stands", "_law_counts"] (defScope s__law_rooms) := scK
theorem ok__law_rooms (T : Txt K mg) : OkS P w K mg base "_law_rooms" 34 (spR K (RmR fb__law_rooms)) := by
  have g__law_take := @ok__law_take P w K mg base T
  refine okR_mk T.f__law_rooms sc__law_rooms (fun _ _ _ _ _ _ us hl => match us, hl with | [_, _, _, _], _ => rfl) rfl rfl (fun _ _ _ _ _ _ _ gd hr tk po => ?_)
  exact svs_cons (sv_set (i := 4) (eo_lst ea_nil) sc__law_rooms.nd)
    (svs_cons (sv_for po rfl (iv_enum T.b_enumerate (ea_cons (ev_var 1) ea_nil)) (gv_tup rfl (gvs_cons (gv_name (i := 5) sc__law_rooms.nd) (gvs_cons (gv_name (i := 6) sc__law_rooms.nd) gvs_nil))) (svs_cons (sv_set (i := 7) (eo_of (ev_hidE 4 (ev_th 2 (ev_sum rfl T.b_sum (ea_cons (ev_of (eo_lc (own := [("_law_count", 9), ("_law_stand", 10)]) rfl sc__law_rooms.nd (iv_zip T.b_zip (ea_cons (ev_var 3) (ea_cons (ev_var 2) ea_nil))) bO (fun _ _ _ _ _ => gv_tup rfl (gvs_cons (gv_name (i := 9) sc__law_rooms.nd) (gvs_cons (gv_name (i := 10) sc__law_rooms.nd) gvs_nil))) (fun _ _ _ _ _ => ets_one (et_eq hr.units (ev_item (ev_var 10) ev_int) (ev_var 5))) (fun _ _ _ _ _ => ev_var 9))) ea_nil))))) sc__law_rooms.nd)
    (svs_cons (sv_if (et_eq hr.units (ev_of (eo_fn g__law_take gd hr tk (ex_s 0 (ex_v ev_int ex_nil)))) ev_int) (svs_cons (sv_set (i := 8) (eo_of (ev_min2 rfl T.b_min (ea_cons ev_int (ea_cons (ev_add (ev_max2 rfl T.b_max (ea_cons ev_int (ea_cons (ev_var 7) ea_nil))) (ev_of (eo_fn g__law_take gd hr tk (ex_s 0 (ex_v ev_int ex_nil))))) ea_nil)))) sc__law_rooms.nd)
    (svs_cons (sv_set (i := 6) (eo_of (ev_tup (ea_cons (ev_item (ev_var 6) ev_int) (ea_cons (ev_item (ev_var 6) ev_int) (ea_cons (ev_var 8) (ea_cons (ev_item (ev_of (eo_lst (ea_cons ev_str (ea_cons ev_str ea_nil)))) (ev_of (eo_fn g__law_take gd hr tk (ex_s 0 (ex_v ev_int ex_nil))))) ea_nil)))))) sc__law_rooms.nd)
    (svs_kill (is := [8]) svs_nil))) svs_nil)
    (svs_cons (sv_app (i := 4) (ev_var 6))
    (svs_kill (is := [5, 6, 7]) svs_nil)))))
    (svs_one (sv_ret (eo_move 4))))
abbrev N__law_drawn : List Str := ["_law_stream_here", "_law_kind", "_law_lines", "_law_places", "_law_row", "_law_stands", "_law_rates", "_law_counts", "_law_k", "_law_place"]
theorem sc__law_drawn : FnScope N__law_drawn ["_law_stream_here"] (defScope s__law_drawn) := scK
theorem ok__law_drawn (T : Txt K mg) : Ok P w K mg base "_law_drawn" 36 1 (some 0) fn__law_drawn := by
  have g__law_take := @ok__law_take P w K mg base T
  have g__law_line := @ok__law_line P w K mg base T
  have g__law_some := @ok__law_some P w K mg base T
  have g__law_ways := @ok__law_ways P w K mg base T
  have g__law_rooms := @ok__law_rooms P w K mg base T
  refine okm (fb := fb__law_drawn) T.f__law_drawn sc__law_drawn (fun _ _ _ _ _ _ _ gd hr tk po => ?_)
  exact svs_cons (sv_set (i := 1) (eo_of (ev_item (ev_of (eo_lst (ea_cons ev_str (ea_cons ev_str (ea_cons ev_str ea_nil))))) (ev_of (eo_fn g__law_take gd hr tk (ex_s 0 (ex_v ev_int ex_nil)))))) sc__law_drawn.nd)
    (svs_cons (sv_set (i := 2) (eo_of (ev_add ev_int (ev_of (eo_fn g__law_take gd hr tk (ex_s 0 (ex_v ev_int ex_nil)))))) sc__law_drawn.nd)
    (svs_cons (sv_set (i := 3) (eo_of (ev_add (ev_of (eo_listRg1 rfl T.b_list T.b_range (ev_var 2))) (ev_of (eo_lc (own := [("_law_k", 8)]) rfl sc__law_drawn.nd (iv_range1 rfl T.b_range (ea_cons (ev_of (eo_fn g__law_take gd hr tk (ex_s 0 (ex_v (ev_sub ev_int (ev_var 2)) ex_nil)))) ea_nil)) bO (fun _ _ _ _ _ => gv_name (i := 8) sc__law_drawn.nd) (fun _ _ _ _ _ => ets_nil) (fun _ _ _ _ _ => ev_of (eo_fn g__law_take gd hr takes0 (ex_s 0 (ex_v (ev_var 2) ex_nil)))))))) sc__law_drawn.nd)
    (svs_cons (sv_setLc (i := 4) (own := [("_law_k", 8)]) rfl sc__law_drawn.nd (iv_range1 rfl T.b_range (ea_cons (ev_var 2) ea_nil)) bO (fun _ _ _ _ _ => gv_name (i := 8) sc__law_drawn.nd) (fun _ _ _ _ _ => ets_nil) (fun _ _ _ _ _ => ev_of (eo_fn g__law_line gd hr takes0 (ex_s 0 (ex_v (ev_var 1) ex_nil)))) (sw_true rfl rfl rfl (by decide +kernel)))
    (svs_cons (sv_setLc (i := 5) (own := [("_law_place", 9)]) rfl sc__law_drawn.nd (iv_list (ev_of (eo_revL (ev_var 3)))) bO (fun _ _ _ _ _ => gv_name (i := 9) sc__law_drawn.nd) (fun _ _ _ _ _ => ets_nil) (fun _ _ _ _ _ => ev_tup (ea_cons (ev_var 9) (ea_cons (ev_of (eo_fn g__law_some gd hr takes0 (ex_s 0 ex_nil))) (ea_cons (ev_of (eo_fn g__law_ways gd hr takes0 (ex_s 0 (ex_v (ev_len T.b_len (ea_cons (ev_var 3) ea_nil)) (ex_v (ev_eq hr.units (ev_var 1) ev_str) ex_nil))))) ea_nil)))) (sw_true rfl rfl rfl (by decide +kernel)))
    (svs_cons (sv_if (et_eq hr.units (ev_var 1) ev_str) (svs_cons (sv_set (i := 7) (eo_rep (ev_of (eo_lst (ea_cons ev_int ea_nil))) (ev_lenL (i := 5) T.b_len)) sc__law_drawn.nd)
    (svs_cons (sv_for po rfl (iv_range1 rfl T.b_range (ea_cons (ev_add ev_int (ev_of (eo_fn g__law_take gd hr tk (ex_s 0 (ex_v ev_int ex_nil))))) ea_nil)) (gv_name (i := 8) sc__law_drawn.nd) (svs_cons (sv_augAt (i := 7) ip_add (ev_of (eo_fn g__law_take gd hr tk (ex_s 0 (ex_v (ev_lenL (i := 5) T.b_len) ex_nil)))) ev_int)
    (svs_kill (is := [8]) svs_nil)))
    (svs_frz (i := 7) (svs_frz (i := 4) (svs_one (sv_ret (eo_tupO (eao_w (eo_rom g__law_rooms gd hr tk) (eao_s 5 (eao_f (ev_tup (ea_cons ev_str (ea_cons (ev_var 7) ea_nil))) eao_nil)))))))))) svs_nil)
    (svs_cons (sv_setLc (i := 6) (own := [("_law_place", 9)]) rfl sc__law_drawn.nd (iv_list (ev_var 3)) bO (fun _ _ _ _ _ => gv_name (i := 9) sc__law_drawn.nd) (fun _ _ _ _ _ => ets_nil) (fun _ _ _ _ _ => ev_if (et_eq hr.units (ev_of (eo_fn g__law_take gd hr takes0 (ex_s 0 (ex_v ev_int ex_nil)))) ev_int) (ev_tup (ea_cons ev_int (ea_cons ev_int ea_nil))) (ev_of (eo_fn g__law_some gd hr takes0 (ex_s 0 ex_nil)))) (sw_true rfl rfl rfl (by decide +kernel)))
    (svs_cons (sv_putAt (i := 6) (ev_of (eo_fn g__law_some gd hr tk (ex_s 0 ex_nil))) (ev_of (eo_fn g__law_take gd hr tk (ex_s 0 (ex_v (ev_len T.b_len (ea_cons (ev_var 3) ea_nil)) ex_nil)))))
    (svs_frz (i := 6) (svs_one (sv_ret (eo_tupO (eao_s 4 (eao_s 5 (eao_f (ev_tup (ea_cons ev_str (ea_cons (ev_var 6) ea_nil))) eao_nil))))))))))))))
abbrev N__law_deep : List Str := ["_law_lines", "_law_stands", "_law_comers", "_law_row", "_law_speeds", "_law_more", "_law_room", "_law_rule", "_law_line_here", "_law_rate", "_law_goes"]
theorem sc__law_deep : FnScope N__law_deep ["_law_lines", "_law_stands", "_law_comers"] (defScope s__law_deep) := scK
theorem ok__law_deep__o (T : Txt K mg) : Ok P w K mg base "_law_deep" 33 3 none fn__law_deep__o := by
  refine okm (fb := fb__law_deep__o) T.f__law_deep sc__law_deep (fun _ _ _ _ _ _ _ gd hr tk po => ?_)
  exact svs_cons (sv_setLcD (i := 3) (own := [("_law_speeds", 4), ("_law_more", 5), ("_law_room", 6), ("_law_rule", 7)]) rfl sc__law_deep.nd (iv_list (ev_var 0)) bO (fun _ _ _ _ _ => gv_tup rfl (gvs_cons (gv_name (i := 4) sc__law_deep.nd) (gvs_cons (gv_name (i := 5) sc__law_deep.nd) (gvs_cons (gv_name (i := 6) sc__law_deep.nd) (gvs_cons (gv_name (i := 7) sc__law_deep.nd) gvs_nil))))) (fun _ _ _ _ _ => ets_nil) (fun _ _ _ _ _ => eo_tupO (eao_w (eo_listOf T.b_list (ea_cons (ev_var 4) ea_nil)) (eao_f (ev_var 5) (eao_f (ev_var 6) (eao_f (ev_var 7) eao_nil))))) (sw_true rfl rfl rfl (by decide +kernel)))
    (svs_one (sv_ret (eo_tupO (eao_s 3 (eao_w (eo_lcD (own := [("_law_line_here", 8), ("_law_rate", 9), ("_law_goes", 10)]) rfl sc__law_deep.nd (iv_list (ev_var 1)) bO (fun _ _ _ _ _ => gv_tup rfl (gvs_cons (gv_name (i := 8) sc__law_deep.nd) (gvs_cons (gv_name (i := 9) sc__law_deep.nd) (gvs_cons (gv_name (i := 10) sc__law_deep.nd) gvs_nil)))) (fun _ _ _ _ _ => ets_nil) (fun _ _ _ _ _ => eo_tupO (eao_f (ev_var 8) (eao_f (ev_var 9) (eao_w (eo_listOf T.b_list (ea_cons (ev_var 10) ea_nil)) eao_nil))))) (eao_w (eo_tupO (eao_f (ev_item (ev_var 2) ev_int) (eao_w (eo_listOf T.b_list (ea_cons (ev_item (ev_var 2) ev_int) ea_nil)) eao_nil))) eao_nil))))))
theorem ok_made_net__o (T : Txt K mg) : Ok P w K mg base "made_net" 39 3 none fn_made_net__o := by
  have g_ask_net := @ok_ask_net P w K mg base T
  refine okm (fb := fb_made_net__o) T.f_made_net sc_made_net (fun _ _ _ _ _ _ _ gd hr tk po => ?_)
  exact svs_cons (sv_expr (ev_of (eo_fn g_ask_net gd hr tk (ex_v (ev_var 0) (ex_v (ev_var 1) (ex_v (ev_var 2) ex_nil))))))
    (svs_cons (sv_setLcD (i := 3) (own := [("speeds", 4), ("more", 5), ("room", 6), ("rule", 7)]) rfl sc_made_net.nd (iv_list (ev_var 0)) bO (fun _ _ _ _ _ => gv_tup rfl (gvs_cons (gv_name (i := 4) sc_made_net.nd) (gvs_cons (gv_name (i := 5) sc_made_net.nd) (gvs_cons (gv_name (i := 6) sc_made_net.nd) (gvs_cons (gv_name (i := 7) sc_made_net.nd) gvs_nil))))) (fun _ _ _ _ _ => ets_nil) (fun _ _ _ _ _ => eo_tupO (eao_w (eo_listOf T.b_list (ea_cons (ev_var 4) ea_nil)) (eao_f (ev_var 5) (eao_f (ev_var 6) (eao_f (ev_var 7) eao_nil))))) (sw_true rfl rfl rfl (by decide +kernel)))
    (svs_one (sv_ret (eo_tupO (eao_s 3 (eao_w (eo_lcD (own := [("line", 8), ("rate", 9), ("goes", 10)]) rfl sc_made_net.nd (iv_list (ev_var 1)) bO (fun _ _ _ _ _ => gv_tup rfl (gvs_cons (gv_name (i := 8) sc_made_net.nd) (gvs_cons (gv_name (i := 9) sc_made_net.nd) (gvs_cons (gv_name (i := 10) sc_made_net.nd) gvs_nil)))) (fun _ _ _ _ _ => ets_nil) (fun _ _ _ _ _ => eo_tupO (eao_f (ev_var 8) (eao_f (ev_var 9) (eao_w (eo_listOf T.b_list (ea_cons (ev_var 10) ea_nil)) eao_nil))))) (eao_w (eo_tupO (eao_f (ev_item (ev_var 2) ev_int) (eao_w (eo_listOf T.b_list (ea_cons (ev_item (ev_var 2) ev_int) ea_nil)) eao_nil))) eao_nil)))))))
abbrev N__law_change : List Str := ["_law_net"]
theorem sc__law_change : FnScope N__law_change ["_law_net"] (defScope s__law_change) := scK
theorem ok__law_change (T : Txt K mg) : OkS P w K mg base "_law_change" 33 (spC K) := by
  refine okC_mk T.f__law_change sc__law_change (fun _ _ _ _ _ _ us hl => match us, hl with | [_], _ => rfl) rfl (by decide) (fun f cdv A outer s H E F ρ σ B H1 N1 v al as_ sp wy cn L hb h0 hP hR k => ?_)
  exact wss_chg (W := fun cls d _ H => E cls d H) L hb hP hR
    (fun H a => by obtain ⟨u, a1, a⟩ := a.inv; obtain ⟨u2, a2, a3⟩ := a.inv; exact rp_ix (rp_ix (rp_ix (rp_var h0) a1) a2) a3)
    (fun H a => by obtain ⟨u, a1, a⟩ := a.inv; obtain ⟨u2, a2, a3⟩ := a.inv; exact rp_ix (rp_ix (rp_ix (rp_var h0) a1) a2) a3)
    (fun H a => by obtain ⟨u, a1, a2⟩ := a.inv; exact rp_ix (rp_ix (rp_var h0) a1) a2)
    (fun H a => rp_ix (rp_var h0) a) (fun H a => rp_ix (rp_var h0) a)
    (ev_tup (ea_cons ev_int (ea_cons ev_int ea_nil))) (ev_tup (ea_cons ev_int (ea_cons (ev_tup (ea_cons ev_int (ea_cons ev_int ea_nil))) ea_nil))) (ev_tup (ea_cons ev_int (ea_cons ev_int ea_nil)))
    (ev_tup (ea_cons (ev_of (eo_lst (ea_cons (ev_tup (ea_cons ev_int (ea_cons ev_int ea_nil))) ea_nil))) (ea_cons (ev_tup (ea_cons ev_int (ea_cons ev_int ea_nil))) (ea_cons ev_int (ea_cons ev_str ea_nil)))))
    rfl rfl rfl rfl k
abbrev N__law_apart : List Str := ["_law_net", "_law_some_here", "_law_k", "_law_one", "_law_line_here", "_law_stand"]
theorem sc__law_apart : FnScope N__law_apart ["_law_net"] (defScope s__law_apart) := scK
theorem ok__law_apart (T : Txt K mg) : OkS P w K mg base "_law_apart" 34 (spA K) := by
  refine okA_mk T.f__law_apart sc__law_apart (fun _ _ _ _ _ _ us hl => match us, hl with | [_], _ => rfl) rfl rfl rfl (f1 := ap_f1) (f2 := ap_f2) (fun _ _ _ _ _ _ _ gd hr tk po => ?_) ap_e1 ap_e2
  refine ⟨sv_set (i := 1) (eo_cat (ev_add (ev_of (eo_lc (own := [("_law_line_here", 4)]) rfl sc__law_apart.nd (iv_list (ev_item (ev_var 0) ev_int)) bO (fun _ _ _ _ _ => gv_name (i := 4) sc__law_apart.nd) (fun _ _ _ _ _ => ets_nil) (fun _ _ _ _ _ => ev_item (ev_var 4) ev_int))) (ev_of (eo_lc (own := [("_law_stand", 5)]) rfl sc__law_apart.nd (iv_list (ev_item (ev_var 0) ev_int)) bO (fun _ _ _ _ _ => gv_name (i := 5) sc__law_apart.nd) (fun _ _ _ _ _ => ets_nil) (fun _ _ _ _ _ => ev_item (ev_var 5) ev_int)))) (ev_of (eo_lst (ea_cons (ev_item (ev_item (ev_var 0) ev_int) ev_int) ea_nil)))) sc__law_apart.nd, ?_⟩
  exact svs_cons (sv_enApp (i := 1) (ik := 2) (io := 3) po rfl T.b_enumerate (gv_tup rfl (gvs_cons (gv_name (i := 2) sc__law_apart.nd) (gvs_cons (gv_name (i := 3) sc__law_apart.nd) gvs_nil))) (ev_tup (ea_cons (ev_var 2) (ea_cons ev_int ea_nil))))
    (svs_frz (i := 1) (svs_cons (sv_for po rfl (iv_enum T.b_enumerate (ea_cons (ev_var 1) ea_nil)) (gv_tup rfl (gvs_cons (gv_name (i := 2) sc__law_apart.nd) (gvs_cons (gv_name (i := 3) sc__law_apart.nd) gvs_nil))) (svs_cons (sv_if (et_ne hr.units (ev_item (ev_var 3) (ev_neg ev_int)) (ev_tup (ea_cons (ev_var 2) (ea_cons ev_int ea_nil)))) (svs_one (sv_ret (eo_of ev_bl))) svs_nil)
    (svs_kill (is := [2, 3]) svs_nil)))
    (svs_one (sv_ret (eo_of ev_bl)))))
abbrev N__law_shared : List Str := ["_law_stream_here", "_law_handed", "_law_lines", "_law_stands", "_law_comers", "_law_one", "_law_two"]
theorem sc__law_shared : FnScope N__law_shared ["_law_stream_here", "_law_handed"] (defScope s__law_shared) := scK
theorem ok__law_shared (T : Txt K mg) : OkS P w K mg base "_law_shared" 34 (spS K (shG sh_f2)) := by
  have g__law_take := @ok__law_take P w K mg base T
  refine okSh_mk T.f__law_shared sc__law_shared (fun _ _ _ _ _ _ us hl => match us, hl with | [_, _], _ => rfl) rfl rfl rfl (f1 := sh_f1) (f2 := sh_f2) (fun _ _ _ _ _ _ _ gd hr tk po => ?_) sh_e1
  refine ⟨sv_asg (ev_var 1) (gv_tup rfl (gvs_cons (gv_name (i := 2) sc__law_shared.nd) (gvs_cons (gv_name (i := 3) sc__law_shared.nd) (gvs_cons (gv_name (i := 4) sc__law_shared.nd) gvs_nil)))), ?_⟩
  exact svs_cons (sv_set (i := 5) (eo_fn g__law_take gd hr tk (ex_s 0 (ex_v (ev_lenL (i := 3) T.b_len) ex_nil))) sc__law_shared.nd)
    (svs_cons (sv_set (i := 6) (eo_fn g__law_take gd hr tk (ex_s 0 (ex_v (ev_lenL (i := 3) T.b_len) ex_nil))) sc__law_shared.nd)
    (svs_cons (sv_putAt (i := 3) (ev_tup (ea_cons (ev_item (ev_peek (i := 3) (ev_var 5)) ev_int) (ea_cons (ev_item (ev_peek (i := 3) (ev_var 5)) ev_int) (ea_cons (ev_item (ev_peek (i := 3) (ev_var 6)) ev_int) ea_nil)))) (ev_var 5))
    (svs_cons (sv_set (i := 5) (eo_fn g__law_take gd hr tk (ex_s 0 (ex_v (ev_lenL (i := 2) T.b_len) ex_nil))) sc__law_shared.nd)
    (svs_cons (sv_set (i := 6) (eo_fn g__law_take gd hr tk (ex_s 0 (ex_v (ev_lenL (i := 2) T.b_len) ex_nil))) sc__law_shared.nd)
    (svs_cons (sv_putAt (i := 2) (ev_add (ev_tup (ea_cons (ev_item (ev_peek (i := 2) (ev_var 6)) ev_int) ea_nil)) (ev_of (eo_slice (ev_peek (i := 2) (ev_var 5)) (ep_some ev_int) ep_none))) (ev_var 5))
    svs_nil)))))
abbrev N_law : List Str := ["_law_script", "_law_k", "_law_stream_here", "_law_handed", "_law_kept", "_law_net", "_law_other"]
theorem sc_law : FnScope N_law ["_law_script"] (defScope s_law) := scK
def lawB : List Stmt := match defBody s_law with
  | .For _ _ b _ _ :: _ => b
  | _ => []
def lawPre : List Stmt := (lawB.drop 1).take 9
def lawRest : List Stmt := lawB.drop 11
theorem ok_law_at {f : Addr} {fd : FuncData} (T : Txt K mg) (F : Fun K "law" "law" s_law f fd) : FnG P w K mg base 40 f fd ["_law_script"] (spF K mg 1 none fn_law) := by
  have g__law_stream := @ok__law_stream P w K mg base T
  have g__law_drawn := @ok__law_drawn P w K mg base T
  have g__law_shared := @ok__law_shared P w K mg base T
  have g__law_deep := @ok__law_deep__o P w K mg base T
  have g_made_net := @ok_made_net__o P w K mg base T
  have g__law_change := @ok__law_change P w K mg base T
  have g__law_apart := @ok__law_apart P w K mg base T
  refine ok_at (N := N_law) (ps := ["_law_script"]) (fb := fb_law) F sc_law (by decide) (fun f cdv A outer s H E gd hr tk po => ?_)
  exact svs_cons (sv_for po rfl (iv_range1 rfl T.b_range (ea_cons ev_int ea_nil)) (gv_name (i := 1) sc_law.nd) (svs_cons (sv_set (i := 2) (eo_fn g__law_stream gd hr tk (ex_v (ev_var 0) (ex_v (ev_var 1) ex_nil))) sc_law.nd)
    (svs_free (i0 := 0) (ih := 3) (f := fb_pre) (g := fb_rest) (pre := lawPre) (rest := lawRest) g__law_change gd hr tk
      (svp_cons (sv_set (i := 3) (eo_fn g__law_drawn gd hr tk (ex_s 2 ex_nil)) sc_law.nd)
      (svp_cons (sv_shd (is := 2) (ih := 3) g__law_shared gd hr tk)
      (svp_frz (i := 3) (svp_cons (sv_set (i := 4) (eo_fn g__law_deep gd hr tk (ex_v (ev_item (ev_var 3) ev_int) (ex_v (ev_item (ev_var 3) ev_int) (ex_v (ev_item (ev_var 3) ev_int) ex_nil)))) sc_law.nd)
      (svp_cons (sv_set (i := 5) (eo_fn g_made_net gd hr tk (ex_v (ev_item (ev_var 3) ev_int) (ex_v (ev_item (ev_var 3) ev_int) (ex_v (ev_item (ev_var 3) ev_int) ex_nil)))) sc_law.nd)
      (svp_cons (sv_if (et_th 5 (et_th 4 (et_w (ew_or (et_not (et_val (ev_isi T.b_isinstance T.b_tuple (ev_var 5) rfl))) (ew_or (et_ne hr.units (ev_var 5) (ev_var 4)) (ew_or1 (et_ne hr.units (ev_var 3) (ev_var 4)))))))) (svs_one (sv_ret (eo_of ev_bl))) svs_nil)
      (svp_cons (sv_set (i := 6) (eo_fn g_made_net gd hr tk (ex_v (ev_item (ev_var 3) ev_int) (ex_v (ev_item (ev_var 3) ev_int) (ex_v (ev_item (ev_var 3) ev_int) ex_nil)))) sc_law.nd)
      (svp_cons (sv_chg (i := 5) g__law_change gd hr tk)
      (svp_cons (sv_if (et_th 4 (et_th 6 (et_w (ew_or (et_ne hr.units (ev_var 3) (ev_var 4)) (ew_or1 (et_ne hr.units (ev_var 6) (ev_var 4))))))) (svs_one (sv_ret (eo_of ev_bl))) svs_nil)
      (svp_cons (sv_if (et_w (ew_or (et_not (et_val (ev_apt g__law_apart gd hr tk (eo_fn g_made_net gd hr tk (ex_v (ev_item (ev_var 3) ev_int) (ex_v (ev_item (ev_var 3) ev_int) (ex_v (ev_item (ev_var 3) ev_int) ex_nil))))))) (ew_or1 (et_th 4 (et_ne hr.units (ev_var 3) (ev_var 4)))))) (svs_one (sv_ret (eo_of ev_bl))) svs_nil)
      svp_nil))))))))))
      (svs_cons (sv_if (et_th 4 (et_th 6 (et_ne hr.units (ev_var 6) (ev_var 4)))) (svs_one (sv_ret (eo_of ev_bl))) svs_nil)
      (svs_kill (is := [1, 2, 3, 4, 5, 6]) svs_nil)))))
    (svs_one (sv_ret (eo_of ev_bl)))
end Wk
end K03
namespace K03
open PySem PySem.Spec PyProof.Rows L2 Dt Dt.Hk
namespace Wk
theorem all_mk {l : PySem.W.OpenLaw} {w : World} {K : PySem.W.Frag} {h : Heap} {mg : Str → Option Value} {fa : Addr} (c : Says Hd.qs K) (X : K.In h) (G : h.Ns mainGlobals mg) (hfa : mg "law" = some (.ref fa)) :
    ∃ fd : FuncData, (∀ (s : Shared) (v : Value), BindsTo s fd ⟨[v], []⟩ [("_law_script", v)]) ∧ ∀ base : Heap, K.In base → base.Ns mainGlobals mg → FnG l.prog w K mg base 40 fa fd ["_law_script"] (spL K 63) := by
  have T : Txt K mg := { f_common := Qs.fn X G c 0, f_fraction := Qs.fn X G c 1, f_plus := Qs.fn X G c 2, f_is_less := Qs.fn X G c 3, f_total := Qs.fn X G c 4, f_ask := Qs.fn X G c 5, f_ask_fraction := Qs.fn X G c 6, f_ask_line := Qs.fn X G c 7, f_ask_stand := Qs.fn X G c 8, f_ask_rates := Qs.fn X G c 9, f_ask_counts := Qs.fn X G c 10, f_ask_net := Qs.fn X G c 11, f_made_net := Qs.fn X G c 12, f__law_stream := Qs.fn X G c 13, f__law_take := Qs.fn X G c 14, f__law_fraction := Qs.fn X G c 15, f__law_some := Qs.fn X G c 16, f__law_line := Qs.fn X G c 17, f__law_ways := Qs.fn X G c 18, f__law_rooms := Qs.fn X G c 19, f__law_drawn := Qs.fn X G c 20, f__law_deep := Qs.fn X G c 21, f_law := Qs.fn X G c 22, f__law_change := Qs.fn X G c 23, f__law_apart := Qs.fn X G c 24, f__law_shared := Qs.fn X G c 25, b_abs := Qs.free X G c 0, b_enumerate := Qs.free X G c 1, b_int := Qs.free X G c 2, b_len := Qs.free X G c 3, b_list := Qs.free X G c 4, b_max := Qs.free X G c 5, b_min := Qs.free X G c 6, b_range := Qs.free X G c 7, b_sum := Qs.free X G c 8, b_zip := Qs.free X G c 9, b_isinstance := Qs.free X G c 10, b_tuple := Qs.free X G c 11, x_NoFraction := Qs.exc X G c 0, x_NoNet := Qs.exc X G c 1, c_MOST_COMERS := Qs.int X G c 0, c_MOST_LINES := Qs.int X G c 1, c_MOST_ROOM := Qs.int X G c 2, c_MOST_SPEEDS := Qs.int X G c 3, c_MOST_STANDS := Qs.int X G c 4, c_NOUGHT := Qs.tup X G c 0, c_ONE := Qs.tup X G c 1, c_OPEN := Qs.str X G c 0, c_RULES := Qs.tup X G c 2, c_SHUT := Qs.str X G c 1, c_SIZE := Qs.int X G c 5 }
  obtain ⟨f, fd, F, e⟩ := Qs.fn X G c 22 (x := "law") (st := s_law)
  have e := hfa.symm.trans e
  cases e
  have F2 := F
  obtain ⟨oc, od, kV, doc, pm, an, cdv, ct, osl, rfl, _, _⟩ := F2.ex
  refine ⟨PySem.W.fnOf "law" "law" (defArgs s_law) (defBody s_law) (defScope s_law) .none kV doc pm an cdv ct, fun s v => .of_eq rfl, fun base _ _ => ?_⟩
  exact law_of (ok_law_at T F) (fun ns _ _ => law_true (ns := ns))
end Wk
end K03
open PySem PySem.W PyProof.Rows
set_option maxHeartbeats 0 in
theorem PySem.Challenge.cw_restlines_k03_nets_made_holds : PySem.Challenge.rw_restlines_k03_nets_made.Holds := by
  refine K03.Hd.h0 fun said => ?_
  refine Dt.Pc.head_pcs (r := PySem.W.OpenLaw.row PySem.Challenge.rw_restlines_k03_nets_made) (q := K03.Hd.qv) (H := K03.Hd.qs.hook) (ob := K03.Hd.ob) (loose := K03.Hd.names) (d := K03.Hd.dl) (kwd := []) K03.Hd.fin K03.Hd.ob_eq
    K03.Hd.h1 K03.Hd.h2 K03.Hd.run K03.Hd.l1 K03.Hd.l2 K03.Hd.l3 K03.Hd.h3 K03.Hd.h4 K03.Hd.h5 K03.Hd.h6 said K03.Hd.h8 K03.Hd.h9 K03.Hd.h11 ?_
  case _ =>
    refine Dt.Hk.walk_h (l := PySem.Challenge.rw_restlines_k03_nets_made) (n := 63) (k := 40) (x := "_law_script") rfl (by decide +kernel) rfl (by decide) (by kernel_rfl) ⟨rfl, by decide, by decide⟩ ?F
    intro w K mg fa h c KX G hmg
    rw [K03.Hd.h10] at hmg
    exact K03.Wk.all_mk (l := PySem.Challenge.rw_restlines_k03_nets_made) c KX G hmg
