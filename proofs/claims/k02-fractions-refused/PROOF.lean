import PyProof.Rows.All
import Wide.All
import OpenK.AllK
import Wide.FinOn
import HandS.Head0
import HandS.Head1
import HandS.Head2
import HandS.Words
import HandS.HeadHook1
import HandS.ForMost
import HandS.ForExc
import HandS.Wide
import HandS.CallSlots
import HandS.IsInst
import HandS.Style
import HandS.TupAny
import HandS.EndBits
import HandS.RaiseMore
import HandS.Conv
import HandS.More
import PyProof.ReprRoads
import HandS.SortInts
import HandS.SortRule
import HandS.SortOrd
import KE.KDictSum
import KE.KMinKey
import HandS.SortKw
import HandS.TryMany
import HandS.ExcIs
import HandS.Lambda
import HandS.EndTab
import HandS.DictTup
import KE.KDictWalk
import KE.KDictCopyH
import HandS.TupMul
import PySem.Challenge.RW_restlines_k02_fractions_refused
set_option Elab.async false
set_option linter.all false
set_option maxRecDepth 100000
set_option maxHeartbeats 4000000
namespace L2
end L2
namespace Dt.Pc
open PySem PySem.W PySem.Calls PyProof.Rows HandSHeadRun
def frN {α : Type} (n : Nat) (k : Nat → α) : α := match n with
  | 0 => k 0
  | m + 1 => k (m + 1)
theorem frN_eq {α : Type} (n : Nat) (k : Nat → α) : frN n k = k n := by cases n <;> rfl
def frB {α : Type} : BT → (BT → α) → α
  | .nil, k => k .nil
  | .node v l r, k => match v with
    | ⟨c, d, x, s⟩ => frB l fun l => frB r fun r => k (.node ⟨c, d, x, s⟩ l r)
theorem frB_eq {α : Type} : ∀ (t : BT) (k : BT → α), frB t k = k t
  | .nil, k => rfl
  | .node ⟨c, d, x, s⟩ l r, k => by
    show frB l (fun l => frB r fun r => k (.node ⟨c, d, x, s⟩ l r)) = _
    rw [frB_eq l, frB_eq r]
def frT {α : Type} (s : SharedT) (k : SharedT → α) : α := match s with
  | ⟨T, n, life, gens, drawn, toks, os⟩ => frB T fun T => frN n fun n => frN toks fun toks => k ⟨T, n, life, gens, drawn, toks, os⟩
theorem frT_eq {α : Type} (s : SharedT) (k : SharedT → α) : frT s k = k s := by
  obtain ⟨T, n, life, gens, drawn, toks, os⟩ := s
  show frB T (fun T => frN n fun n => frN toks fun toks => k ⟨T, n, life, gens, drawn, toks, os⟩) = _
  rw [frB_eq, frN_eq, frN_eq]
section
variable (st : SharedT → Thread → Option (SharedT × Thread)) (n0 : Nat) (ann : Option Value)
def segF : Nat → SharedT → Thread → Option (Flow × SharedT × Code × Pos)
  | 0, _, _ => none
  | m + 1, s, t => match endAt 1 t with
    | some f => frT s fun s => some (f, s, t.code, t.pos)
    | none => match stepOk n0 ann t with
      | false => none
      | true => match st s t with
        | some (s', t') => frN s'.n fun n => frN s'.toks fun k => segF m ⟨s'.tree, n, s'.life, s'.gens, s'.drawn, k, s'.os⟩ t'
        | none => none
def goK : Nat → SharedT → Thread → Option (SharedT × Thread)
  | 0, s, t => frT s fun s => some (s, t)
  | m + 1, s, t => match through t with
    | true => none
    | false => match stepOk n0 ann t with
      | false => none
      | true => match st s t with
        | some (s', t') => frN s'.n fun n => frN s'.toks fun k => goK m ⟨s'.tree, n, s'.life, s'.gens, s'.drawn, k, s'.os⟩ t'
        | none => none
def goE : Nat → SharedT → Thread → Option SharedT
  | 0, _, _ => none
  | m + 1, s, t => match through t with
    | true => frT s some
    | false => match stepOk n0 ann t with
      | false => none
      | true => match st s t with
        | some (s', t') => frN s'.n fun n => frN s'.toks fun k => goE m ⟨s'.tree, n, s'.life, s'.gens, s'.drawn, k, s'.os⟩ t'
        | none => none
end
theorem fr2 {α : Type} (s : SharedT) (k : SharedT → α) : (frN s.n fun n => frN s.toks fun q => k ⟨s.tree, n, s.life, s.gens, s.drawn, q, s.os⟩) = k s := by
  rw [frN_eq, frN_eq]
theorem segF_ok {tb : String → Option Builtin} {p : Program} {w : World} {n0 : Nat} {ann : Option Value} : ∀ {m : Nat} {s s' : SharedT} {t : Thread} {f : Flow} {c : Code} {q : Pos},
    segF (stepT (denote tb) p w) n0 ann m s t = some (f, s', c, q) → segRun tb p w n0 ann 1 m s.abs t = some (f, s'.abs, c, q)
  | 0, _, _, _, _, _, _, h => by cases h
  | m + 1, s, s', t, f, c, q, h => by
    unfold segF at h
    unfold segRun
    cases he : endAt 1 t with
    | some g =>
      rw [he] at h
      have h1 : (frT s fun s => some (g, s, t.code, t.pos)) = some (f, s', c, q) := h
      rw [frT_eq] at h1
      cases h1
      rfl
    | none =>
      rw [he] at h
      cases hk : stepOk n0 ann t with
      | false => rw [hk] at h; cases h
      | true =>
        rw [hk] at h
        cases hs : stepT (denote tb) p w s t with
        | none => rw [hs] at h; cases h
        | some r =>
          obtain ⟨s2, t2⟩ := r
          rw [hs] at h
          have h1 : (frN s2.n fun n => frN s2.toks fun k => segF (stepT (denote tb) p w) n0 ann m ⟨s2.tree, n, s2.life, s2.gens, s2.drawn, k, s2.os⟩ t2) = some (f, s', c, q) := h
          rw [fr2 s2 (fun s => segF (stepT (denote tb) p w) n0 ann m s t2)] at h1
          show (match step (denote tb) p w s.abs t with
            | .go s' t' => segRun tb p w n0 ann 1 m s' t'
            | .halt _ _ => none) = _
          rw [stepT_spec hs]
          exact segF_ok h1
theorem goK_ok {tb : String → Option Builtin} {p : Program} {w : World} {n0 : Nat} {ann : Option Value} : ∀ {m : Nat} {s s' : SharedT} {t t' : Thread},
    goK (stepT (denote tb) p w) n0 ann m s t = some (s', t') → topGo tb p w n0 ann m s.abs t = some (s'.abs, t')
  | 0, s, s', t, t', h => by
    have h1 : (frT s fun s => some (s, t)) = some (s', t') := h
    rw [frT_eq] at h1
    cases h1
    rfl
  | m + 1, s, s', t, t', h => by
    unfold goK at h
    unfold topGo
    cases he : through t with
    | true => rw [he] at h; cases h
    | false =>
      rw [he] at h
      cases hk : stepOk n0 ann t with
      | false => rw [hk] at h; cases h
      | true =>
        rw [hk] at h
        cases hs : stepT (denote tb) p w s t with
        | none => rw [hs] at h; cases h
        | some r =>
          obtain ⟨s2, t2⟩ := r
          rw [hs] at h
          have h1 : (frN s2.n fun n => frN s2.toks fun k => goK (stepT (denote tb) p w) n0 ann m ⟨s2.tree, n, s2.life, s2.gens, s2.drawn, k, s2.os⟩ t2) = some (s', t') := h
          rw [fr2 s2 (fun s => goK (stepT (denote tb) p w) n0 ann m s t2)] at h1
          show (match step (denote tb) p w s.abs t with
            | .go s' t' => topGo tb p w n0 ann m s' t'
            | .halt _ _ => none) = _
          rw [stepT_spec hs]
          exact goK_ok h1
theorem goE_ok {tb : String → Option Builtin} {p : Program} {w : World} {n0 : Nat} {ann : Option Value} : ∀ {m : Nat} {s s' : SharedT} {t : Thread},
    goE (stepT (denote tb) p w) n0 ann m s t = some s' → topRun tb p w n0 ann m s.abs t = some s'.abs
  | 0, s, s', t, h => by cases h
  | m + 1, s, s', t, h => by
    unfold goE at h
    unfold topRun
    cases he : through t with
    | true =>
      rw [he] at h
      have h1 : frT s some = some s' := h
      rw [frT_eq] at h1
      cases h1
      rfl
    | false =>
      rw [he] at h
      cases hk : stepOk n0 ann t with
      | false => rw [hk] at h; cases h
      | true =>
        rw [hk] at h
        cases hs : stepT (denote tb) p w s t with
        | none => rw [hs] at h; cases h
        | some r =>
          obtain ⟨s2, t2⟩ := r
          rw [hs] at h
          have h1 : (frN s2.n fun n => frN s2.toks fun k => goE (stepT (denote tb) p w) n0 ann m ⟨s2.tree, n, s2.life, s2.gens, s2.drawn, k, s2.os⟩ t2) = some s' := h
          rw [fr2 s2 (fun s => goE (stepT (denote tb) p w) n0 ann m s t2)] at h1
          show (match step (denote tb) p w s.abs t with
            | .go s' t' => topRun tb p w n0 ann m s' t'
            | .halt _ _ => none) = _
          rw [stepT_spec hs]
          exact goE_ok h1
abbrev envT (p : Program) : Env := { scope := p.main.scope, locals := mainNs, globals := mainNs, cells := [], code := .ref 13, frame := some 14 }
abbrev codeT (p : Program) : Code := .body (behindTheImports p) (envT p)
abbrev B0 : List Frame := [topFrame default]
def restT (p : Program) (a : Nat) (q : Pos) : Thread := restOf ((behindTheImports p).drop a) (envT p) (codeT p) q B0
def pieceT (p : Program) (a m : Nat) (q : Pos) : Thread := piecesOf (((behindTheImports p).drop a).take m) (envT p) (codeT p) q B0
def blockT (p : Program) : Thread := blockOf (behindTheImports p) (envT p) (codeT p) default B0
def texts {α : Type} : List Str → Nat → List Value → (List Value → Nat → α) → α
  | [], k, out, K => K out.reverse k
  | x :: r, k, out, K => frN (k + 1) fun k1 => texts r k1 (.str x k :: out) K
def tupO (xs : List Value) : Obj := { cls := .type "tuple", data := .seq xs.toArray }
def fldO (cl : Value) (xs : List Value) : Obj := { cls := cl, data := .fields xs.toArray }
section
variable (file : Str) (text modv : Value) (hash : Str → Int)
def defTail {α : Type} (name : Str) (args : Arguments) (body : List Stmt) (scope : Scope) (pos : Pos) (n0 k0 : Nat) (a b : Value) (T : BT) (n k : Nat) (es : List DictEntry) (cs : List Value) (K : BT → Nat → Nat → List DictEntry → List Value → α) : α :=
  frN (n + 1) fun n1 => frN (n + 2) fun n2 => frN (n + 3) fun n3 => frN (k + 1) fun k1 => frN (k + 2) fun k2 => frN (k + 3) fun k3 =>
    K (((T.ins n { cls := .none, data := .func { name, qualname := name, params := args, body := .stmts body, scope, globals := builtinsNs, closure := [], defaults := .none, kwdefaults := .none } }).ins n1
      (fldO (.type "code") [.str name k0, .str name (k0 + 1), .str file (k0 + 2), rawInt pos.line, rawInt (args.posonlyargs.length + args.args.length : Nat), rawInt args.posonlyargs.length, rawInt args.kwonlyargs.length, rawInt (3 : Nat),
        .ref n0, .bool true, text, .ref (n0 + 1), .none, a, b, .ref n, rawInt k, rawInt pos.line, .str file k1])).ins n2
      { cls := .type "function", data := .func { name, qualname := name, params := args, body := .stmts body, scope, globals := mainNs, closure := [], defaults := .none, kwdefaults := .none, pyModule := modv, code := .ref n1 } })
      n3 k3 (⟨hash name, .str name k2, .ref n2⟩ :: es) (.ref n1 :: rawInt pos.col :: rawInt pos.line :: cs)
def goDefs {α : Type} : List Bool → List Stmt → BT → Nat → Nat → List DictEntry → List Value → (BT → Nat → Nat → List DictEntry → List Value → α) → α
  | bl :: bs, .FunctionDef name args body _ _ _ scope _ _ pos :: r, T, n, k, es, cs, K =>
    frN (n + 2) fun n2 => frN (k + 3) fun k3 =>
      match bl with
      | true => defTail file text modv hash name args body scope pos n k .none .none ((T.ins n (tupO [])).ins (n + 1) (fldO .none [])) n2 k3 es cs fun T n k es cs => goDefs bs r T n k es cs K
      | false => texts ((scope.names.filter fun (x, d) => d == .local || (d == .cell && (args.posonlyargs ++ args.args ++ args.kwonlyargs ++ args.vararg.toList ++ args.kwarg.toList).any fun q => q.arg == x)).map (·.1)) k3 [] fun l1 k4 =>
          texts ((scope.names.filter (·.2 == .cell)).map (·.1)) k4 [] fun l2 k5 => frN (n + 3) fun n3 => frN (n + 4) fun n4 =>
            defTail file text modv hash name args body scope pos n k (.ref n2) (.ref n3) ((((T.ins n (tupO [])).ins (n + 1) (fldO .none [])).ins n2 (tupO l1)).ins n3 (tupO l2)) n4 k5 es cs fun T n k es cs => goDefs bs r T n k es cs K
  | _, _, T, n, k, es, cs, K => K T n k es cs
def goRest {α : Type} (st : Stmt) (T : BT) (n k : Nat) (K : BT → Nat → Nat → List DictEntry → List Value → α) : α := match st with
  | .ClassDef name _ _ _ _ _ _ _ _ _ pos =>
    K (((((((((((((T.ins n (tupO [.type "ValueError"])).ins (n + 1) (fldO (.type "builtin_function_or_method") [.builtin "type.__prepare__", .type "type"])).ins (n + 2)
      { cls := .type "dict", data := .dict #[⟨hash "__module__", .str "__module__" (k + 7), modv⟩, ⟨hash "__qualname__", .str "__qualname__" (k + 9), .str name (k + 8)⟩, ⟨hash "__firstlineno__", .str "__firstlineno__" (k + 11), .int (pos.line : Nat) (k + 10)⟩, ⟨hash "__static_attributes__", .str "__static_attributes__" (k + 12), .ref (n + 7)⟩] 4 }).ins (n + 3)
      (tupO [])).ins (n + 4) (fldO .none [])).ins (n + 5)
      (fldO (.type "code") [.str name (k + 2), .str name (k + 3), .str file (k + 4), rawInt pos.line, rawInt (0 : Nat), rawInt (0 : Nat), rawInt (0 : Nat), rawInt (0 : Nat), .ref (n + 3), .bool false, text, .ref (n + 4), .none, .none, .none, .none, rawInt (k + 5 : Nat), rawInt pos.line, .str file (k + 6)])).ins (n + 6)
      { cls := .type "frame", slots := #[some (.ref (n + 5)), some (.ref mainNs), some (.ref (n + 2)), none, some modv, none, some (.ref builtinsNs)] }).ins (n + 7)
      (tupO [])).ins (n + 8)
      { cls := .type "dict", data := .dict #[⟨hash "__module__", .str "__module__" (k + 7), modv⟩, ⟨hash "__firstlineno__", .str "__firstlineno__" (k + 11), .int (pos.line : Nat) (k + 10)⟩, ⟨hash "__static_attributes__", .str "__static_attributes__" (k + 12), .ref (n + 7)⟩, ⟨hash "__weakref__", .str "__weakref__" (k + 14), .ref (n + 10)⟩, ⟨hash "__doc__", .str "__doc__" (k + 15), .none⟩] 3 }).ins (n + 9)
      { cls := .type "type", data := .cls { name, bases := [.type "ValueError"], mro := [.ref (n + 9), .type "ValueError", .type "Exception", .type "BaseException", .type "object"], ns := n + 8, qualname := name }, slots := #[some (.ref n), none, some (.str name k), some (.str name (k + 8)), some (.builtin "ValueError.__new__"), some (.bool true)] }).ins (n + 10)
      (fldO (.type "getset_descriptor") [.str "__weakref__" (k + 13), .ref (n + 9), .builtin "ExceptionGroup.__weakref__", .none])).ins (n + 11)
      (fldO (.type "super") [.ref (n + 9), .ref (n + 9), .ref (n + 9)])).ins (n + 12) (fldO (.type "builtin_function_or_method") [.builtin "object.__init_subclass__", .ref (n + 9)]))
      (n + 13) (k + 18) [⟨hash name, .str name (k + 17), .ref (n + 9)⟩] [.ref (n + 5), rawInt pos.col, rawInt pos.line]
  | _ => K T n k [] []
def consts {α : Type} : List Expr → Nat → List Value → (List Value → Nat → α) → α
  | .Constant (.str x) _ _ :: r, k, out, K => frN (k + 1) fun k1 => consts r k1 (.str x k :: out) K
  | .Constant (.int i) _ _ :: r, k, out, K => frN (k + 1) fun k1 => consts r k1 (.int i k :: out) K
  | _, k, out, K => K out.reverse k
def goPuts {α : Type} : Nat → List Stmt → BT → Nat → Nat → List DictEntry → (BT → Nat → Nat → List DictEntry → α) → α
  | m + 1, .Assign [.Name x _] e _ :: r, T, n, k, es, K => match e with
    | .Constant (.str y) _ _ => frN (k + 1) fun k1 => frN (k + 2) fun k2 => goPuts m r T n k2 (⟨hash x, .str x k1, .str y k⟩ :: es) K
    | .Constant (.int i) _ _ => frN (k + 1) fun k1 => frN (k + 2) fun k2 => goPuts m r T n k2 (⟨hash x, .str x k1, .int i k⟩ :: es) K
    | .UnaryOp _ (.Constant (.int i) _ _) _ => frN (k + 1) fun k1 => frN (k + 2) fun k2 => frN (k + 3) fun k3 => goPuts m r T n k3 (⟨hash x, .str x k2, .int (-i) k1⟩ :: es) K
    | .Tuple xs _ _ => consts xs k [] fun vs k1 => frN (k1 + 1) fun k2 => frN (n + 1) fun n1 => goPuts m r (T.ins n (tupO vs)) n1 k2 (⟨hash x, .str x k1, .ref n⟩ :: es) K
    | _ => K T n k es
  | _, _, T, n, k, es, K => K T n k es
def goCls {α : Type} (r : Addr) (st : Stmt) (T : BT) (n k : Nat) (K : BT → Nat → Nat → List DictEntry → List Value → α) : α := match st with
  | .ClassDef name _ _ _ _ _ _ _ _ _ pos =>
    let at_ (i : Nat) : Nat := n + i
    let tk (i : Nat) : Nat := k + i
    let mro : List Value := match T.get r with
      | some ⟨_, _, .cls c, _⟩ => c.mro
      | _ => []
    K (((((((((((((T.set r (fun o => o.mapCls fun x => { x with subclasses := x.subclasses ++ [.ref (n + 9)] })).ins n (tupO [.ref r])).ins (n + 1) (fldO (.type "builtin_function_or_method") [.builtin "type.__prepare__", .type "type"])).ins (n + 2)
      { cls := .type "dict", data := .dict #[⟨hash "__module__", .str "__module__" (k + 7), modv⟩, ⟨hash "__qualname__", .str "__qualname__" (k + 9), .str name (k + 8)⟩, ⟨hash "__firstlineno__", .str "__firstlineno__" (k + 11), .int (pos.line : Nat) (k + 10)⟩, ⟨hash "__static_attributes__", .str "__static_attributes__" (k + 12), .ref (n + 7)⟩] 4 }).ins (n + 3)
      (tupO [])).ins (n + 4) (fldO .none [])).ins (n + 5)
      (fldO (.type "code") [.str name (k + 2), .str name (k + 3), .str file (k + 4), rawInt pos.line, rawInt (0 : Nat), rawInt (0 : Nat), rawInt (0 : Nat), rawInt (0 : Nat), .ref (n + 3), .bool false, text, .ref (n + 4), .none, .none, .none, .none, rawInt (k + 5 : Nat), rawInt pos.line, .str file (k + 6)])).ins (n + 6)
      { cls := .type "frame", slots := #[some (.ref (n + 5)), some (.ref mainNs), some (.ref (n + 2)), none, some modv, none, some (.ref builtinsNs)] }).ins (n + 7)
      (tupO [])).ins (n + 8)
      { cls := .type "dict", data := .dict #[⟨hash "__module__", .str "__module__" (k + 7), modv⟩, ⟨hash "__firstlineno__", .str "__firstlineno__" (k + 11), .int (pos.line : Nat) (k + 10)⟩, ⟨hash "__static_attributes__", .str "__static_attributes__" (k + 12), .ref (n + 7)⟩, ⟨hash "__doc__", .str "__doc__" (k + 13), .none⟩] 2 }).ins (n + 9)
      { cls := .type "type", data := .cls { name, bases := [.ref r], mro := .ref (n + 9) :: mro, ns := n + 8, qualname := name }, slots := #[some (.ref n), none, some (.str name k), some (.str name (k + 8)), some (.builtin "ValueError.__new__"), some (.bool true)] }).ins (n + 10)
      (fldO (.type "super") [.ref (n + 9), .ref (n + 9), .ref (n + 9)])).ins (n + 11) (fldO (.type "builtin_function_or_method") [.builtin "object.__init_subclass__", .ref (n + 9)]))
      (n + 12) (k + 16) [⟨hash name, .str name (k + 15), .ref (n + 9)⟩] [.ref (n + 5), rawInt pos.col, rawInt pos.line]
  | _ => K T n k [] []
end
inductive Ch where
  | defs (bs : List Bool)
  | cls (r : Nat)
  | rest
  | puts (m : Nat)
  | modl
  | run (m : Nat)
def Ch.count : Ch → Nat
  | .defs bs => bs.length
  | .cls _ => 1
  | .rest => 1
  | .puts m => m
  | .modl => 1
  | .run m => m
def hashT (w : World) (x : Str) : Int := if x.cps.isEmpty then 0 else reduceHash (w.params.strHash x.cps)
def grown (es : List DictEntry) (cs : List Value) (T : BT) : BT :=
  (T.set mainNs fun o => match o with
    | ⟨c, d, .dict xs e, sl⟩ => ⟨c, d, .dict (xs.toList ++ es.reverse).toArray (e + es.length), sl⟩
    | o => o).set 12 fun o => match o with
    | ⟨c, d, .fields xs, sl⟩ => ⟨c, d, .fields (xs.toList ++ cs.reverse).toArray, sl⟩
    | o => o
def renamed (v : Value) : List DictEntry → List DictEntry
  | [] => []
  | e :: r => match e.key.isStr "__name__" with
    | true => { e with val := v } :: r
    | false => e :: renamed v r
section
variable (st : SharedT → Thread → Option (SharedT × Thread)) (n0 : Nat) (ann : Option Value) (p : Program) (w : World)
def nextS (a : Nat) : Ch → SharedT → SharedT
  | .run m, s => match segF st n0 ann 3000 s (pieceT p a m default) with
    | some (_, s', _, _) => s'
    | none => s
  | c, ⟨T, n, life, gens, drawn, k, os⟩ =>
    let (file, text) : Str × Value := match T.get 13 with
      | some ⟨_, _, .fields xs, _⟩ => (match xs.getD 18 .none with | .str f _ => f | _ => "", xs.getD 10 .none)
      | _ => ("", .none)
    let modv : Value := match T.get mainNs with
      | some ⟨_, _, .dict es _, _⟩ => (match es.toList.find? fun e => e.key.isStr "__name__" with | some e => e.val | none => .none)
      | _ => .none
    match c with
    | .defs bs => goDefs file text modv (hashT w) bs ((behindTheImports p).drop a) T n k [] [] fun T n k es cs => ⟨grown es cs T, n, life, gens, drawn, k, os⟩
    | .cls r => (match (behindTheImports p).drop a with
      | d :: _ => goCls file text modv (hashT w) r d T n k fun T n k es cs => ⟨grown es cs T, n, life, gens, drawn, k, os⟩
      | [] => ⟨T, n, life, gens, drawn, k, os⟩)
    | .rest => (match (behindTheImports p).drop a with
      | d :: _ => goRest file text modv (hashT w) d T n k fun T n k es cs => ⟨grown es cs T, n, life, gens, drawn, k, os⟩
      | [] => ⟨T, n, life, gens, drawn, k, os⟩)
    | .puts m => goPuts (hashT w) m ((behindTheImports p).drop a) T n k [] fun T n k es => ⟨grown es [] T, n, life, gens, drawn, k, os⟩
    | .modl => (match (behindTheImports p).drop a with
      | .Assign _ (.Constant (.str y) _ _) _ :: _ => ⟨T.set mainNs (fun o => match o with
          | ⟨c, d, .dict xs e, sl⟩ => ⟨c, d, .dict (renamed (.str y k) xs.toList).toArray e, sl⟩
          | o => o), n, life, gens, drawn, k + 2, os⟩
      | _ => ⟨T, n, life, gens, drawn, k, os⟩)
    | .run _ => ⟨T, n, life, gens, drawn, k, os⟩
def midS : List Ch → Nat → SharedT → SharedT
  | [], _, s => s
  | c :: r, a, s => frT (nextS st n0 ann p w a c s) fun s => midS r (a + c.count) s
end
end Dt.Pc
namespace Dt.Pc
open PySem PySem.W PySem.Calls PyProof.Rows HandSHeadRun
noncomputable def boot0 (w : World) (os : OsState) : SharedT := match putAll (boot_heap w.params).objs.toList .nil 0 with
  | some r => bootT w os r
  | none => bootT w os (.nil, 0)
section
variable (p : Program) (w : World)
noncomputable abbrev stQ : SharedT → Thread → Option (SharedT × Thread) := stepQ (denQ tabQ) p w
noncomputable def m0 (os : OsState) : SharedT := match goK (stQ p w) 11 (bootAnn w) 12 (boot0 w os) (topStub p) with
  | some (s, _) => s
  | none => boot0 w os
noncomputable def m1 (os : OsState) : SharedT := match segF (stQ p w) 11 (bootAnn w) 100 (m0 p w os) (blockT p) with
  | some (_, s, _, _) => s
  | none => m0 p w os
noncomputable def mE (a : Nat) (q : Pos) (s : SharedT) : SharedT := match goE (stQ p w) 11 (bootAnn w) 300 s (restT p a q) with
  | some s => s
  | none => s
noncomputable abbrev mid (chs : List Ch) (a : Nat) (s : SharedT) : SharedT := midS (stQ p w) 11 (bootAnn w) p w chs a s
end
end Dt.Pc
namespace Dt.Pc
open PySem PySem.W PySem.Calls PyProof.Rows HandSHeadRun
theorem boot0_abs (w : World) (os : OsState) : (boot0 w os).abs = ⟨boot_heap w.params, #[], boot_drawn, boot_toks, os⟩ ∧ (boot_heap w.params).objs.size = 11 := by
  have z : (putAll (boot_heap w.params).objs.toList .nil 0).map (fun r => r.2) = some 11 := by kernel_rfl
  unfold boot0
  cases e : putAll (boot_heap w.params).objs.toList .nil 0 with
  | none => rw [e] at z; cases z
  | some r =>
    obtain ⟨t, n⟩ := r
    rw [e] at z
    have en0 : n = 11 := Option.some.inj z
    have eh := putAll_heap e
    constructor
    · show (⟨absHeap t n (boot_heap w.params).life, #[], boot_drawn, boot_toks, os⟩ : Shared) = _
      rw [eh]
    · rw [← en0, ← eh]
      exact absHeap_size t n _
section
variable {p : Program} {w : World} {os : OsState} {r : Shared}
theorem chain_start {N : Nat} (hA : goK (stQ p w) 11 (bootAnn w) 12 (boot0 w os) (topStub p) = some (m0 p w os, ⟨denQ tabQ (codeT p), codeT p, default, B0⟩))
    (hB : segF (stQ p w) 11 (bootAnn w) 100 (m0 p w os) (blockT p) = some (.next, m1 p w os, codeT p, default))
    (k : topRun treeTable p w 11 (bootAnn w) N (m1 p w os).abs (restT p 0 default) = some r) : topRun treeTable p w 11 (bootAnn w) (12 + (100 + N)) (boot0 w os).abs (topStub p) = some r := by
  unfold stQ at hA hB
  rw [← stepQ_eq, ← denQ_eq, ← tabQ_eq] at hA hB
  exact go_top (goK_ok hA) (piece_block (segF_ok hB) k)
theorem chain_step {N a m : Nat} {s s' : SharedT} {q q' : Pos} (h : segF (stQ p w) 11 (bootAnn w) 3000 s (pieceT p a m q) = some (.next, s', codeT p, q'))
    (k : topRun treeTable p w 11 (bootAnn w) N s'.abs (restT p (a + m) q') = some r) : topRun treeTable p w 11 (bootAnn w) (3000 + N) s.abs (restT p a q) = some r := by
  unfold stQ at h
  rw [← stepQ_eq, ← denQ_eq, ← tabQ_eq] at h
  have k2 : topRun treeTable p w 11 (bootAnn w) N s'.abs (restOf (((behindTheImports p).drop a).drop m) (envT p) (codeT p) q' [topFrame default]) = some r := by
    rw [List.drop_drop]
    exact k
  have z := piece_app (l := ((behindTheImports p).drop a).take m) (segF_ok h) k2
  rw [List.take_append_drop] at z
  exact z
theorem chain_end {a : Nat} {q : Pos} {s s' : SharedT} (h : goE (stQ p w) 11 (bootAnn w) 300 s (restT p a q) = some s') : topRun treeTable p w 11 (bootAnn w) 300 s.abs (restT p a q) = some s'.abs := by
  unfold stQ at h
  rw [← stepQ_eq, ← denQ_eq, ← tabQ_eq] at h
  exact goE_ok h
end
theorem left_pcs {p q : Program} {loose : List PySem.Str} {Xt : Shared → Bool} {α : Type} {Yf : Shared → α} {Ya : World → α} {N M : Nat} (fin : World → OsState → SharedT)
    (e : opening p = plainProg p.main.scope.names) (hN : Nat.ble 600 N = true) (f : ∀ s, fenceModules? p s = some s) (le : Nat.ble M N = true)
    (run : ∀ (w : World) (os : OsState), topRun treeTable p w 11 (bootAnn w) M (boot0 w os).abs (topStub p) = some (fin w os).abs)
    (k1 : ∀ w os, looksF p (boot_heap w.params) (fin w os).abs = true) (k2 : ∀ w os, openSeen q loose (importedModules p.main.body) Xt true (fin w os).abs = openGood q loose) (k3 : ∀ w os, Yf (fin w os).abs = Ya w) :
    LeftO p q loose Xt Yf Ya N true := fun w => by
  obtain ⟨⟨h, gs, d, k, os⟩, a, a'⟩ := Option.map_eq_some_iff.mp (boot_open e hN f w)
  obtain ⟨rfl, rfl, rfl, rfl⟩ : h = boot_heap w.params ∧ gs = Array.mk [] ∧ d = boot_drawn ∧ k = boot_toks := by simpa using a'
  have r0 := run w os
  obtain ⟨z1, z2⟩ := boot0_abs w os
  rw [z1] at r0
  have r := topRun_mono (N - M) _ _ _ _ r0
  rw [show M + (N - M) = N by have := Nat.le_of_ble_eq_true le; omega] at r
  have l1' : (staticsOk (importedModules p.main.body) (boot_heap w.params) (fin w os).abs.heap && namesBound p (fin w os).abs.heap && gensDone (fin w os).abs && laidKept (boot_heap w.params) (fin w os).abs.heap) = true := k1 w os
  have t : topFrom treeTable p w N ⟨boot_heap w.params, Array.mk [], boot_drawn, boot_toks, os⟩ = some (fin w os).abs := by
    unfold topFrom
    dsimp only
    rw [boot_ns, z2]
    show (topRun treeTable p w 11 (bootAnn w) N ⟨boot_heap w.params, #[], boot_drawn, boot_toks, os⟩ (topStub p)).bind _ = _
    rw [r]
    show (match staticsOk (importedModules p.main.body) (boot_heap w.params) (fin w os).abs.heap && namesBound p (fin w os).abs.heap && gensDone (fin w os).abs && laidKept (boot_heap w.params) (fin w os).abs.heap with | true => some (fin w os).abs | false => none) = _
    rw [l1']
  unfold openEnds
  rw [a]
  show (topFrom treeTable p w N _).map _ = _
  rw [t]
  exact congrArg some (Prod.ext (k2 w os) (k3 w os))
theorem head_pcs {r : OpenRow} {q : Program} {H : Hook} {ob : SharedT → H.α} {M : Nat} {loose : List PySem.Str} {d : DefRec} {kwd : List (PySem.Str × PySem.Expr)} (fin : World → OsState → SharedT) (ho : ∀ s : SharedT, ob s = H.obs s.abs)
    (e : opening r.prog = plainProg r.prog.main.scope.names) (f : ∀ s, fenceModules? r.prog s = some s)
    (run : ∀ (w : World) (os : OsState), topRun treeTable r.prog w 11 (bootAnn w) M (boot0 w os).abs (topStub r.prog) = some (fin w os).abs)
    (l1 : ∀ w os, looksF r.prog (boot_heap w.params) (fin w os).abs = true)
    (l2 : ∀ w os, seenQ q loose (importedModules r.prog.main.body) (fun s => xlAt q [] s && recOk r.toRowW.records s) (fin w os).abs = openGood q loose) (l3 : ∀ w os, ob (fin w os) = H.val w)
    (hdef : defOf q r.name = some (d, kwd)) (hp : r.prog.theDef r.name = some (d.params, d.body, d.scope)) (hk : kwWritten? d.params.kwonlyargs d.params.kw_defaults = some kwd)
    (hwr : (!r.writes || r.records.isEmpty) = true) (k1 : r.wellSaid = true) (ok : (chainsOk q && opensWell r.prog && (frees r.toRowW && r.within.isEmpty)) = true) (hb : r.prog.bare) (hw : r.toRowW.promised)
    (call : WalkO q loose (XL q []) H.says r.toRowW d kwd fun f vs => PySem.call f vs) : r.Holds := by
  have left : LeftO r.prog q loose (fun s => xlAt q [] s && recOk r.toRowW.records s) H.obs H.val (M + 600) true :=
    left_pcs (M := M) fin e (Nat.ble_eq_true_of_le (by omega)) f (Nat.ble_eq_true_of_le (by omega)) run l1 (fun w os => by rw [seenQ_eq]; exact l2 w os) (fun w os => by rw [← ho]; exact l3 w os)
  exact holds_open (r := r) (q := q) (loose := loose) (XP := XL q []) (YP := H.says) (d := d) (kwd := kwd) left H.of H.keeps (fun s z => xl_of s (Bool.and_eq_true_iff.mp z).1) XL.keeps hdef hp hk (fun s z => recFacts_of (Bool.and_eq_true_iff.mp z).2) hwr k1 ok hb hw call
end Dt.Pc
namespace Dt.Hk
open PySem PySem.Spec PyProof.Rows L2
open PySem.W (nsIn fnOf codeIn keepIn)
abbrev veT : List Value := [.type "ValueError", .type "Exception", .type "BaseException", .type "object"]
structure Qs where
  fns : List (Str × Str × Stmt)
  frees : List Str
  excs : List Str
  xcs : List Str
  isv : List (Str × String)
  exm : List (Str × Str × Bool)
  cints : List (Str × Int)
  cstrs : List (Str × Str)
  ctups : List (Str × List (Int ⊕ Str))
def eqB (a b : Option Bool) : Bool := match a, b with
  | some x, some y => x == y
  | _, _ => false
def isBn (o : Option (Option Value)) (x : String) : Bool := match o with
  | some (some (.builtin y)) => y == x
  | _ => false
def isNo (o : Option (Option Value)) : Bool := match o with
  | some none => true
  | _ => false
def isTy (o : Option Value) (x : String) : Bool := match o with
  | some (.type y) => y == x
  | _ => false
def litB : Int ⊕ Str → Value → Bool
  | .inl i, .int j _ => decide (j = i)
  | .inr s, .str t _ => decide (t = s)
  | _, _ => false
def litsB : List (Int ⊕ Str) → List Value → Bool
  | [], [] => true
  | x :: xs, u :: us => litB x u && litsB xs us
  | _, _ => false
def excB (K : PySem.W.Frag) (x : Str) : Bool := (match nsIn K mainGlobals x with
  | some (some (.ref C)) => PySem.W.excIn K C veT "ValueError.__new__" && (keepIn K (.ref C) && (eqB (PySem.W.subIn K (.ref C) (.type "BaseException")) (some true) && isTy (PySem.W.typeIn K (.ref C)) "type"))
  | _ => false)
def xcB (K : PySem.W.Frag) (x : Str) : Bool := (match nsIn K mainGlobals x with
  | some (some (.ref C)) => isBn (PySem.W.findIn K (.ref C) "__getattribute__") "BaseException.__getattribute__" && (isNo (PySem.W.findIn K (.ref C) "__getattr__") && (eqB (PySem.W.subIn K (.ref C) (.type "BaseException")) (some true) &&
    (PySem.W.hasDictIn K C && (isBn (PySem.W.findIn K (.ref C) "__class__") "object.__class__" && (isBn (PySem.W.specialIn K (.builtin "object.__class__") "__get__") "getset_descriptor.__get__" &&
    (eqB (PySem.W.takesIn K (.builtin "object.__class__")) (some true) && eqB (PySem.W.mroIn K C (.type "object")) (some true)))))))
  | _ => false)
def isvB (K : PySem.W.Frag) (q : Str × String) : Bool := (match nsIn K mainGlobals q.1 with
  | some (some (.ref C)) => eqB (PySem.W.subIn K (.ref C) (.type q.2)) (some true)
  | _ => false)
def exmB (K : PySem.W.Frag) (q : Str × Str × Bool) : Bool := (match nsIn K mainGlobals q.1 with
  | some (some (.ref C)) => (match nsIn K mainGlobals q.2.1 with
    | some (some (.ref E)) => eqB (PySem.W.exmOne K (.ref C) (.ref E)) (some q.2.2)
    | _ => false)
  | _ => false)
def intB (K : PySem.W.Frag) (q : Str × Int) : Bool := (match nsIn K mainGlobals q.1 with
  | some (some (.int j _)) => decide (j = q.2)
  | _ => false)
def strB (K : PySem.W.Frag) (q : Str × Str) : Bool := (match nsIn K mainGlobals q.1 with
  | some (some (.str j _)) => decide (j = q.2)
  | _ => false)
def tupB (K : PySem.W.Frag) (q : Str × List (Int ⊕ Str)) : Bool := (match nsIn K mainGlobals q.1 with
  | some (some (.ref p)) => (match K.lookup p with
    | some ⟨.type c, _, .seq its _, _⟩ => (c == "tuple") && (Nat.ble its.size 1000 && litsB q.2 its.toList)
    | _ => false)
  | _ => false)
def enc (s : Str) : Nat := s.cps.toList.foldl (fun a c => a * 1114112 + c + 1) 0
def encV : Value → Nat
  | .str s _ => enc s
  | _ => 0
def tbl (es : List DictEntry) : List (Nat × DictEntry) := es.map fun e => (encV e.key, e)
def tblK {α : Type} : List DictEntry → (List (Nat × DictEntry) → α) → α
  | [], k => k []
  | e :: r, k => HandSHeadRun.frNat (encV e.key) fun n => tblK r fun t => k ((n, e) :: t)
def lkT (n : Nat) : List (Nat × DictEntry) → Option DictEntry
  | [] => none
  | (m, e) :: r => match Nat.beq m n with
    | true => some e
    | false => lkT n r
def glE (g : Addr → Option Obj) : List DictEntry := (match g mainGlobals with
  | some ⟨_, _, .dict us _, _⟩ => us.toList
  | _ => [])
def rfs (g : Addr → Option Obj) (as : List Addr) : List Addr := as.flatMap fun a => (match g a with
  | some o => He.refsO o
  | none => [])
def r1 (es : List DictEntry) : List Addr := es.flatMap fun e => He.refV e.val
def asK (g : Addr → Option Obj) : List Addr := (mainGlobals :: (r1 ((glE g).take 24) ++ rfs g (r1 ((glE g).take 24)))) ++ (r1 (glE g) ++ rfs g (r1 (glE g)))
abbrev KG (g : Addr → Option Obj) : PySem.W.Frag := He.frG g (asK g)
def codeG (g : Addr → Option Obj) (v : Value) (x : Str) : Bool := match v with
  | .ref c => (match g c with
    | some ⟨_, _, .fields vs, _⟩ => (match vs.toList with
      | _ :: .str n _ :: _ => n == x
      | _ => false)
    | _ => false)
  | _ => false
def fnB (g : Addr → Option Obj) (t : List (Nat × DictEntry)) (q : Str × Str × Stmt) : Bool := (match HandSHeadRun.frNat (enc q.1) fun n => lkT n t with
  | some e => e.key.isStr q.1 && (match e.val with
    | .ref f => (match g f with
      | some ⟨_, _, .func fd, _⟩ => codeG g fd.code q.2.1
      | _ => false)
    | _ => false)
  | _ => false)
abbrev FnO : Type := Option (Str × Str × Arguments × FuncBody × Scope × Addr × List (Str × Addr) × Value × Addr)
def fnO (g : Addr → Option Obj) (t : List (Nat × DictEntry)) (q : Str × Str × Stmt) : FnO := (match HandSHeadRun.frNat (enc q.1) fun n => lkT n t with
  | some e => (match e.val with
    | .ref f => (match g f with
      | some ⟨_, _, .func u, _⟩ => some (u.name, u.qualname, u.params, u.body, u.scope, u.globals, u.closure, u.defaults, u.builtins)
      | _ => none)
    | _ => none)
  | _ => none)
def fnV (q : Str × Str × Stmt) : FnO := some (q.2.1, q.2.1, defArgs q.2.2, .stmts (defBody q.2.2), defScope q.2.2, mainGlobals, [], .none, builtinsNs)
def frB (t : List (Nat × DictEntry)) (x : Str) : Bool := (match HandSHeadRun.frNat (enc x) fun n => lkT n t with
  | none => true
  | some _ => false)
def Qs.ckK (Q : Qs) (K : PySem.W.Frag) : Bool := Q.excs.all (excB K) && (Q.xcs.all (xcB K) && (Q.isv.all (isvB K) && (Q.exm.all (exmB K) && (Q.cints.all (intB K) && (Q.cstrs.all (strB K) && Q.ctups.all (tupB K))))))
def Qs.ckT (Q : Qs) (g : Addr → Option Obj) (t : List (Nat × DictEntry)) : Bool := Q.fns.all (fnB g t) && Q.frees.all (frB t)
abbrev QO : Type := Bool × Bool × List FnO
def Qs.val (Q : Qs) : QO := (true, true, Q.fns.map fnV)
end Dt.Hk
namespace Dt.Hk
open PySem PySem.Spec PyProof.Rows L2
open PySem.W (nsIn fnOf codeIn keepIn findIn)
structure Qc where
  q : Qs
  mets : List (Str × Str × Str × Stmt)
  inis : List (Str × Str × Stmt)
  flds : List (Str × Str)
def clsR (g : Addr → Option Obj) (cs : List Str) : List Addr := cs.flatMap fun c => (match (glE g).find? (·.key.isStr c) with
  | some e => (match e.val with
    | .ref C => (match g C with
      | some o => He.refsO o ++ (rfs g (He.refsO o) ++ rfs g (rfs g (He.refsO o)))
      | none => [])
    | _ => [])
  | none => [])
def Qc.cs (Q : Qc) : List Str := Q.inis.map (·.1)
def asC (Q : Qc) (g : Addr → Option Obj) : List Addr := asK g ++ clsR g Q.cs
abbrev KC (Q : Qc) (g : Addr → Option Obj) : PySem.W.Frag := He.frG g (asC Q g)
def clsB (K : PySem.W.Frag) (C : Addr) : Bool := PySem.W.plainGet K C Str.empty && (PySem.W.hasDictIn K C && (PySem.W.plainOver K C && isBn (findIn K (.ref C) "__setattr__") "object.__setattr__"))
def fdB (K : PySem.W.Frag) (f : Addr) (qual : Str) : Bool := match K.lookup f with
  | some ⟨_, _, .func fd, _⟩ => codeIn K fd.code qual
  | _ => false
def metB (K : PySem.W.Frag) (q : Str × Str × Str × Stmt) : Bool := (match nsIn K mainGlobals q.1 with
  | some (some (.ref C)) => clsB K C && (match findIn K (.ref C) q.2.1 with
    | some (some (.ref f)) => PySem.W.isFn K (.ref f) && (keepIn K (.ref f) && fdB K f q.2.2.1)
    | _ => false)
  | _ => false)
def iniB (K : PySem.W.Frag) (q : Str × Str × Stmt) : Bool := (match nsIn K mainGlobals q.1 with
  | some (some (.ref C)) => clsB K C && (PySem.W.makesIn K C && (keepIn K (.ref C) && (match findIn K (.ref C) "__init__" with
    | some (some (.ref f)) => PySem.W.isFn K (.ref f) && (keepIn K (.ref f) && fdB K f q.2.1)
    | _ => false)))
  | _ => false)
def fldB (K : PySem.W.Frag) (q : Str × Str) : Bool := (match nsIn K mainGlobals q.1 with
  | some (some (.ref C)) => clsB K C && isNo (findIn K (.ref C) q.2)
  | _ => false)
def fdO (K : PySem.W.Frag) (f : Addr) : FnO := match K.lookup f with
  | some ⟨_, _, .func u, _⟩ => some (u.name, u.qualname, u.params, u.body, u.scope, u.globals, u.closure, u.defaults, u.builtins)
  | _ => none
def metO (K : PySem.W.Frag) (c m : Str) : FnO := (match nsIn K mainGlobals c with
  | some (some (.ref C)) => (match findIn K (.ref C) m with
    | some (some (.ref f)) => fdO K f
    | _ => none)
  | _ => none)
def metV (m qual : Str) (st : Stmt) : FnO := some (m, qual, defArgs st, .stmts (defBody st), defScope st, mainGlobals, [], .none, builtinsNs)
def Qc.ckC (Q : Qc) (K : PySem.W.Frag) : Bool := Q.mets.all (metB K) && (Q.inis.all (iniB K) && Q.flds.all (fldB K))
def Qc.os (Q : Qc) (K : PySem.W.Frag) : List FnO := Q.mets.map (fun q => metO K q.1 q.2.1) ++ Q.inis.map fun q => metO K q.1 "__init__"
def Qc.vs (Q : Qc) : List FnO := Q.mets.map (fun q => metV q.2.1 q.2.2.1 q.2.2.2) ++ Q.inis.map fun q => metV "__init__" q.2.1 q.2.2
abbrev QcO : Type := QO × Bool × List FnO
def Qc.obsG (Q : Qc) (g : Addr → Option Obj) : QcO := ((!(glE g).isEmpty && (!((glE g).any (·.refKey)) && Q.q.ckK (KC Q g)), tblK (glE g) fun t => (Q.q.ckT g t, Q.q.fns.map (fnO g t))), Q.ckC (KC Q g), Q.os (KC Q g))
def Qc.val (Q : Qc) : QcO := (Q.q.val, true, Q.vs)
end Dt.Hk
namespace Dt.Hk
open PySem
def notTb (p : Addr × Obj) : Bool := match p.2.data with
  | .fields vs => vs.size != 0
  | _ => true
end Dt.Hk
namespace Dt.Br
open PySem PySem.TablesWhole
theorem wSs_app {top : Scope} {cx : TablesWhole.Ctx} {sc : Scope} : ∀ a b : List Stmt, wSs holds top cx sc (a ++ b) = (wSs holds top cx sc a && wSs holds top cx sc b)
  | [], b => by
    rw [List.nil_append, wSs]
    rfl
  | s :: r, b => by
    rw [List.cons_append, wSs, wSs, wSs_app r b]
    exact (Bool.and_assoc _ _ _).symm
theorem gSs_app {top : Scope} {cx : TablesWhole.Ctx} {sc : Scope} : ∀ a b : List Stmt, wSs gather top cx sc (a ++ b) = wSs gather top cx sc a ++ wSs gather top cx sc b
  | [], b => by
    rw [List.nil_append, wSs]
    rfl
  | s :: r, b => by
    rw [List.cons_append, wSs, wSs, gSs_app r b]
    exact (List.append_assoc _ _ _).symm
abbrev cx0 (p : Program) : TablesWhole.Ctx := ⟨p.main.scope, [], [], [], none⟩
def ck (p : Program) (a n : Nat) : Bool := (wSs gather p.main.scope (cx0 p) p.main.scope ((p.main.body.drop a).take n)).isEmpty && wSs holds p.main.scope (cx0 p) p.main.scope ((p.main.body.drop a).take n)
def From (p : Program) (a : Nat) : Prop := wSs gather p.main.scope (cx0 p) p.main.scope (p.main.body.drop a) = [] ∧ wSs holds p.main.scope (cx0 p) p.main.scope (p.main.body.drop a) = true
theorem from_end {p : Program} {a : Nat} (h : (p.main.body.drop a).isEmpty = true) : From p a := by
  have e : p.main.body.drop a = [] := List.isEmpty_iff.mp h
  unfold From
  rw [e]
  constructor
  · rw [wSs]; rfl
  · rw [wSs]; rfl
theorem from_step {p : Program} {a n : Nat} (h : ck p a n = true) (r : From p (a + n)) : From p a := by
  unfold ck at h
  rw [Bool.and_eq_true] at h
  have e : p.main.body.drop a = (p.main.body.drop a).take n ++ p.main.body.drop (a + n) := by
    rw [← List.drop_drop]
    exact (List.take_append_drop n _).symm
  unfold From
  rw [e, gSs_app, wSs_app, List.isEmpty_iff.mp h.1, h.2, r.1, r.2]
  exact ⟨rfl, rfl⟩
theorem whole_of {p : Program} (h1 : p.modules = []) (h2 : p.parses = []) (h3 : p.harvested = []) (h4 : noTwice p.main.scope = true) (h : From p 0) : p.tablesWhole = true := by
  obtain ⟨g, w⟩ := h
  rw [List.drop_zero] at g w
  unfold Program.tablesWhole wProgram wModule
  rw [h1, h2, h3]
  have e : (wSs gather p.main.scope ⟨p.main.scope, [], [], [], none⟩ p.main.scope p.main.body) = [] := g
  dsimp only
  rw [e]
  unfold Alg.all holds
  simp only [List.foldr_cons, List.foldr_nil, List.map_nil, h4, Bool.and_true, Bool.true_and]
  exact w
end Dt.Br
namespace K02
namespace Hd
open PySem PySem.W PySem.Calls PyProof.Rows HandSHeadRun Dt.Pc Dt.Hk
abbrev R : PySem.W.OpenRow := PySem.W.OpenLaw.row PySem.Challenge.rw_restlines_k02_fractions_refused
abbrev P : Program := R.prog
abbrev qv : Program := PySem.W.view R.prog [12]
def nm0 : List Str := ["RestError", "NoFraction", "common", "fraction", "times", "over", "_law_stream", "_law_take", "_law_refused"]
def names : List Str := nm0
noncomputable def s0 (w : World) (os : OsState) : SharedT := m1 P w os
theorem pA (w : World) (os : OsState) : goK (stQ P w) 11 (bootAnn w) 12 (boot0 w os) (topStub P) = some (m0 P w os, ⟨denQ tabQ (codeT P), codeT P, default, B0⟩) := by kernel_rfl
theorem pB (w : World) (os : OsState) : segF (stQ P w) 11 (bootAnn w) 100 (m0 P w os) (blockT P) = some (.next, m1 P w os, codeT P, default) := by kernel_rfl
def c1 : List Ch := [.modl, .rest, .cls 24, .modl, .defs [false, false, false, false], .modl, .defs [false, false]]
noncomputable def s1 (w : World) (os : OsState) : SharedT := mid P w c1 0 (s0 w os)
def c2 : List Ch := [.defs [false, false]]
noncomputable def s2 (w : World) (os : OsState) : SharedT := mid P w c2 11 (s1 w os)
theorem p1 (w : World) (os : OsState) : segF (stQ P w) 11 (bootAnn w) 3000 (s0 w os) (pieceT P 0 11 default) = some (.next, s1 w os, codeT P, ⟨31, 0, 37, 21⟩) := by kernel_rfl
theorem p2 (w : World) (os : OsState) : segF (stQ P w) 11 (bootAnn w) 3000 (s1 w os) (pieceT P 11 2 ⟨31, 0, 37, 21⟩) = some (.next, s2 w os, codeT P, ⟨44, 0, 59, 15⟩) := by kernel_rfl
noncomputable def fin (w : World) (os : OsState) : SharedT := mE P w 13 ⟨44, 0, 59, 15⟩ (s2 w os)
theorem pE (w : World) (os : OsState) : goE (stQ P w) 11 (bootAnn w) 300 (s2 w os) (restT P 13 ⟨44, 0, 59, 15⟩) = some (fin w os) := by kernel_rfl
theorem run (w : World) (os : OsState) : topRun treeTable P w 11 (bootAnn w) (12 + (100 + (3000 + (3000 + 300)))) (boot0 w os).abs (topStub P) = some (fin w os).abs := chain_start (pA w os) (pB w os) (chain_step (p1 w os) (chain_step (p2 w os) (chain_end (pE w os))))
theorem l1 (w : World) (os : OsState) : looksF P (boot_heap w.params) (fin w os).abs = true := by kernel_rfl
theorem l2 (w : World) (os : OsState) : seenQ qv names (importedModules P.main.body) (fun s => xlAt qv [] s && recOk R.toRowW.records s) (fin w os).abs = openGood qv names := by kernel_rfl
def topS (i : Nat) : Stmt := PySem.Challenge.pw_restlines_k02_fractions_refused.main.body.getD i (.Pass ⟨0, 0, 0, 0⟩)
def qF0 : List (Str × Str × Stmt) := [("common", "common", topS 4), ("fraction", "fraction", topS 5), ("times", "times", topS 6), ("over", "over", topS 7), ("_law_stream", "_law_stream", topS 9), ("_law_take", "_law_take", topS 10), ("_law_refused", "_law_refused", topS 11), ("law", "law", topS 12)]
def qM0 : List (Str × Str × Bool) := [("NoFraction", "NoFraction", true), ("NoFraction", "RestError", true)]
def qs : Qs := { fns := qF0, frees := ["ValueError", "abs", "isinstance", "len", "range"], excs := ["NoFraction", "RestError"], xcs := ["NoFraction"], isv := [("NoFraction", "ValueError")], exm := qM0, cints := [], cstrs := [], ctups := [] }
def qc : Qc := { q := qs, mets := [], inis := [], flds := [] }
def ob (s : PySem.W.SharedT) : Dt.Hk.QcO × Bool := (qc.obsG (HandSHeadRun.getT s), (KC qc (HandSHeadRun.getT s)).all notTb)
theorem l3 (w : World) (os : OsState) : ob (fin w os) = (qc.val, true) := by kernel_rfl
abbrev dl : DefRec := HandSHeadRun.topDef R.prog 12
theorem h1 : opening R.prog = plainProg R.prog.main.scope.names := by kernel_rfl
theorem h2 : ∀ s, fenceModules? R.prog s = some s := fun s => by kernel_rfl
theorem h3 : defOf qv R.name = some (dl, []) := by kernel_rfl
theorem h4 : R.prog.theDef R.name = some (dl.params, dl.body, dl.scope) := by kernel_rfl
theorem h5 : kwWritten? dl.params.kwonlyargs dl.params.kw_defaults = some [] := by kernel_rfl
theorem h6 : (!R.writes || R.records.isEmpty) = true := by rfl
theorem h8a : chainsOk qv = true := by kernel_rfl
theorem h8b : opensWell R.prog = true := by kernel_rfl
theorem h8c : frees R.toRowW = true := by kernel_rfl
theorem h8d : R.within.isEmpty = true := by kernel_rfl
theorem h8 : (chainsOk qv && opensWell R.prog && (frees R.toRowW && R.within.isEmpty)) = true := by
  rw [h8a, h8b, h8c, h8d]
  rfl
theorem b0 : Dt.Br.ck R.prog 0 30 = true := by kernel_rfl
theorem bE : (R.prog.main.body.drop 30).isEmpty = true := by kernel_rfl
theorem bN : PySem.TablesWhole.noTwice R.prog.main.scope = true := by kernel_rfl
theorem h9 : R.prog.bare := ⟨rfl, rfl, rfl, rfl, rfl, Dt.Br.whole_of rfl rfl rfl bN (Dt.Br.from_step b0 (Dt.Br.from_end bE))⟩
theorem h10 : dl.name = ("law" : PySem.Str) := by kernel_rfl
end Hd
end K02
section
open PySem PySem.W PyProof.Rows
set_option maxHeartbeats 0 in
theorem K02.Hd.h0 (h : (PySem.W.OpenLaw.row PySem.Challenge.rw_restlines_k02_fractions_refused).wellSaid = true → (PySem.W.OpenLaw.row PySem.Challenge.rw_restlines_k02_fractions_refused).Holds) : PySem.Challenge.rw_restlines_k02_fractions_refused.Holds := by
  w_on; o_law
  exact h (by assumption)
set_option maxHeartbeats 0 in
theorem K02.Hd.h11 : (PySem.W.OpenLaw.row PySem.Challenge.rw_restlines_k02_fractions_refused).toRowW.promised := by
  w_witness2
end
namespace Dt
open PySem PySem.Spec PyProof.Rows L2
abbrev St := L2.St
inductive D where
  | non
  | bl (b : Bool)
  | int (i : Int)
  | str (x : Str)
  | lst (xs : List D)
  | tup (xs : List D)
  | scr (ns : List Int)
  | dic (ks : List Int) (vs : List D)
  /-- a dict whose keys are tuples of ints and texts -/
  | dct (ks : List (List L2.Key)) (vs : List D)
  /-- some object, by its address -/
  | obj (a : Addr)
  /-- a tuple of ints and texts that was made by the program, a key -/
  | key (ks : List L2.Key)
  /-- an instance of a class of the module, by the class's name, with its fields -/
  | ins (c : Str) (ks : List Str) (vs : List D)
def kPy : L2.Key → PyData
  | .inl i => .int i
  | .inr x => .str x
mutual
def D.py : D → PyData
  | .non => .none
  | .bl b => .bool b
  | .int i => .int i
  | .str x => .str x
  | .lst xs => .list (D.pys xs)
  | .tup xs => .tuple (D.pys xs)
  | .scr ns => .list (ns.map PyData.int)
  | .dic _ _ => .dict []
  | .dct _ _ => .dict []
  | .ins _ _ _ => .dict []
  | .obj _ => .dict []
  | .key ks => .tuple (ks.map kPy)
def D.pys : List D → List PyData
  | [] => []
  | x :: xs => D.py x :: D.pys xs
end
def Ex (H H' : Hp) : Prop := ∀ a o, H a = some o → H' a = some o
theorem Ex.refl (H : Hp) : Ex H H := fun _ _ h => h
theorem Ex.trans {H H1 H2 : Hp} (a : Ex H H1) (b : Ex H1 H2) : Ex H H2 := fun x o h => b x o (a x o h)
theorem Ex.new {H : Hp} {p : Addr} {o : HO} (h : H p = none) : Ex H (upd H p o) := fun a u e => by
  rw [upd_ne (ne_of_none e h)]
  exact e
theorem Ex.nn {H H' : Hp} {p : Addr} (e : Ex H H') (h : H' p = none) : H p = none := by
  cases h1 : H p with
  | none => rfl
  | some o => rw [e p o h1] at h; cases h
theorem Ex.both {B H : Hp} {p : Addr} {o : HO} (e : Ex B H) : Ex (upd B p o) (upd H p o) := fun a u h => by
  by_cases q : a = p
  · subst q; rw [upd_same] at h ⊢; exact h
  · rw [upd_ne q] at h ⊢; exact e a u h
theorem Ex.right {B H : Hp} {p : Addr} {o : HO} (e : Ex B H) (h : B p = none) : Ex B (upd H p o) := fun a u q => by
  rw [upd_ne (ne_of_none q h)]; exact e a u q
theorem upd_some {H : Hp} {a p : Addr} {o : HO} (h : H a ≠ none) : upd H p o a ≠ none := by
  by_cases q : a = p
  · subst q; rw [upd_same]; simp
  · rw [upd_ne q]; exact h
theorem Ex.rd {H H' : Hp} {a : Addr} {u : HO} (e : Ex H H') (h : Rd H a u) : Rd H' a u := by
  rcases h with h | ⟨o, h⟩
  · exact Or.inl (e a _ h)
  · exact Or.inr ⟨o, e a _ h⟩
theorem Ex.sl {K : PySem.W.Frag} {H H' : Hp} {a : Addr} {xs : List V} (e : Ex H H') (h : SqL K H a xs) : SqL K H' a xs := by
  rcases h with h | h
  · exact Or.inl (e.rd h)
  · exact Or.inr h
theorem Ex.st {K : PySem.W.Frag} {H H' : Hp} {a : Addr} {xs : List V} (e : Ex H H') (h : SqT K H a xs) : SqT K H' a xs := by
  rcases h with h | h
  · exact Or.inl (e.rd h)
  · exact Or.inr h
def dkt (ks : List (List L2.Key)) (xs : List V) : List (List L2.Key × V) := List.zipWith (fun k v => (k, v)) ks xs
def dki (ks : List Str) (xs : List V) : List (Str × V) := List.zipWith (fun k v => (k, v)) ks xs
def dkv (ks : List Int) (xs : List V) : List (L2.Key × V) := List.zipWith (fun k v => (Sum.inl k, v)) ks xs
mutual
inductive Fz (K : PySem.W.Frag) (B : Hp) : V → D → Prop
  | non : Fz K B .non .non
  | bl (b : Bool) : Fz K B (.bl b) (.bl b)
  | int (i : Int) : Fz K B (.int i) (.int i)
  | str (x : Str) : Fz K B (.str x) (.str x)
  | lst {a : Addr} {xs : List V} {ds : List D} : B a = some (.lst xs) → Fzs K B xs ds → Fz K B (.ref a) (.lst ds)
  | tup {a : Addr} {xs : List V} {ds : List D} : SqT K B a xs → Fzs K B xs ds → Fz K B (.ref a) (.tup ds)
  | scr {a : Addr} {ns : List Int} : SqL K B a (ns.map V.int) → Fz K B (.ref a) (.scr ns)
  | dic {a : Addr} {ks : List Int} {xs : List V} {ds : List D} : B a = some (.dK (dkv ks xs)) → ks.length = xs.length → Fzs K B xs ds → Fz K B (.ref a) (.dic ks ds)
  | dct {a : Addr} {ks : List (List L2.Key)} {xs : List V} {ds : List D} : Rd B a (.dT (dkt ks xs)) → ks.length = xs.length → Fzs K B xs ds → Fz K B (.ref a) (.dct ks ds)
  | obj (a : Addr) : Fz K B (.ref a) (.obj a)
  | key {a : Addr} {ks : List L2.Key} : B a = some (.tup (ks.map kV)) → Fz K B (.ref a) (.key ks)
  | ins {a C dx : Addr} {c : Str} {ks : List Str} {xs : List V} {ds : List D} : PySem.W.nsIn K mainGlobals c = some (some (.ref C)) → B a = some (.ins C dx (dki ks xs)) → ks.length = xs.length → Fzs K B xs ds → Fz K B (.ref a) (.ins c ks ds)
inductive Fzs (K : PySem.W.Frag) (B : Hp) : List V → List D → Prop
  | nil : Fzs K B [] []
  | cons {v : V} {vs : List V} {d : D} {ds : List D} : Fz K B v d → Fzs K B vs ds → Fzs K B (v :: vs) (d :: ds)
end
section
variable {K : PySem.W.Frag} {B B' H : Hp}
mutual
theorem Fz.mono {v : V} {d : D} (e : Ex B B') : Fz K B v d → Fz K B' v d
  | .non => .non
  | .bl b => .bl b
  | .int i => .int i
  | .str x => .str x
  | .lst h hs => .lst (e _ _ h) (Fzs.mono e hs)
  | .tup h hs => .tup (e.st h) (Fzs.mono e hs)
  | .scr h => .scr (e.sl h)
  | .dic h l hs => .dic (e _ _ h) l (Fzs.mono e hs)
  | .dct h l hs => .dct (e.rd h) l (Fzs.mono e hs)
  | .obj a => .obj a
  | .key h => .key (e _ _ h)
  | .ins k h l hs => .ins k (e _ _ h) l (Fzs.mono e hs)
theorem Fzs.mono {vs : List V} {ds : List D} (e : Ex B B') : Fzs K B vs ds → Fzs K B' vs ds
  | .nil => .nil
  | .cons h hs => .cons (Fz.mono e h) (Fzs.mono e hs)
end
theorem dp_ints : ∀ ns : List Int, DpAll K H (ns.map V.int) (ns.map PyData.int)
  | [] => .nil
  | n :: ns => .cons (.int n) (dp_ints ns)
theorem dp_keys : ∀ ks : List L2.Key, DpAll K H (ks.map kV) (ks.map kPy)
  | [] => .nil
  | .inl n :: ns => .cons (.int n) (dp_keys ns)
  | .inr n :: ns => .cons (.str n) (dp_keys ns)
mutual

def D.nd : D → Bool
  | .lst xs => D.nds xs
  | .tup xs => D.nds xs
  | .dic _ _ | .dct _ _ | .ins _ _ _ | .obj _ => false
  | .non | .bl _ | .int _ | .str _ | .scr _ | .key _ => true
def D.nds : List D → Bool
  | [] => true
  | x :: xs => D.nd x && D.nds xs
end
mutual
theorem D.nd_lay : ∀ {d : D}, d.py.canLay0 = true → d.nd = true
  | .non, _ => by simp [D.nd]
  | .bl _, _ => by simp [D.nd]
  | .int _, _ => by simp [D.nd]
  | .str _, _ => by simp [D.nd]
  | .scr _, _ => by simp [D.nd]
  | .lst xs, h => by
    simp only [D.py, PyData.canLay0] at h
    simp only [D.nd]; exact D.nds_lay h
  | .tup xs, h => by
    simp only [D.py, PyData.canLay0] at h
    simp only [D.nd]; exact D.nds_lay h
  | .dic _ _, h => by simp [D.py, PyData.canLay0] at h
  | .dct _ _, h => by simp [D.py, PyData.canLay0] at h
  | .ins _ _ _, h => by simp [D.py, PyData.canLay0] at h
  | .obj _, h => by simp [D.py, PyData.canLay0] at h
  | .key _, _ => by simp [D.nd]
theorem D.nds_lay : ∀ {ds : List D}, PyData.canLayAll0 (D.pys ds) = true → D.nds ds = true
  | [], _ => by simp [D.nds]
  | x :: xs, h => by
    simp only [D.pys, PyData.canLayAll0, Bool.and_eq_true] at h
    simp only [D.nds, Bool.and_eq_true]
    exact ⟨D.nd_lay h.1, D.nds_lay h.2⟩
end
mutual
theorem Fz.dp {v : V} {d : D} (e : Ex B H) (n : d.nd = true) : Fz K B v d → Dp K H v d.py
  | .non => by simp only [D.py]; exact .non
  | .bl b => by simp only [D.py]; exact .bl b
  | .int i => by simp only [D.py]; exact .int i
  | .str x => by simp only [D.py]; exact .str x
  | .lst h hs => by simp only [D.py]; exact .lst (.inl (.inl (e _ _ h))) (Fzs.dp e (by simpa only [D.nd] using n) hs)
  | .tup h hs => by simp only [D.py]; exact .tup (e.st h) (Fzs.dp e (by simpa only [D.nd] using n) hs)
  | .scr h => by simp only [D.py]; exact .lst (e.sl h) (dp_ints _)
  | .dic _ _ _ => by simp [D.nd] at n
  | .dct _ _ _ => by simp [D.nd] at n
  | .ins _ _ _ _ => by simp [D.nd] at n
  | .obj _ => by simp [D.nd] at n
  | .key h => by simp only [D.py]; exact .tup (e.st (.inl (.inl h))) (dp_keys _)
theorem Fzs.dp {vs : List V} {ds : List D} (e : Ex B H) (n : D.nds ds = true) : Fzs K B vs ds → DpAll K H vs (D.pys ds)
  | .nil => by simp only [D.pys]; exact .nil
  | .cons h hs => by
    simp only [D.nds, Bool.and_eq_true] at n
    simp only [D.pys]
    exact .cons (Fz.dp e n.1 h) (Fzs.dp e n.2 hs)
end
theorem Fzs.len : ∀ {vs : List V} {ds : List D}, Fzs K B vs ds → vs.length = ds.length
  | _, _, .nil => rfl
  | _, _, .cons _ hs => by rw [List.length_cons, List.length_cons, Fzs.len hs]
theorem Fzs.get : ∀ {vs : List V} {ds : List D} {i : Nat} {d : D}, Fzs K B vs ds → ds[i]? = some d → ∃ v, vs[i]? = some v ∧ Fz K B v d
  | _, _, _, _, .nil, e => by simp at e
  | _, _, 0, _, .cons h _, e => by simp at e; subst e; exact ⟨_, rfl, h⟩
  | _, _, i + 1, d, .cons _ hs, e => by
    obtain ⟨v, h1, h2⟩ := Fzs.get (i := i) (d := d) hs (by simpa using e)
    exact ⟨v, by simpa using h1, h2⟩
theorem Fzs.append : ∀ {vs ws : List V} {ds es : List D}, Fzs K B vs ds → Fzs K B ws es → Fzs K B (vs ++ ws) (ds ++ es)
  | _, _, _, _, .nil, h => h
  | _, _, _, _, .cons a t, h => .cons a (Fzs.append t h)
theorem Fzs.set : ∀ {vs : List V} {ds : List D} {v : V} {d : D} (i : Nat), Fzs K B vs ds → Fz K B v d → Fzs K B (vs.set i v) (ds.set i d)
  | _, _, _, _, _, .nil, _ => .nil
  | _, _, _, _, 0, .cons _ t, h => .cons h t
  | _, _, _, _, i + 1, .cons a t, h => .cons a (Fzs.set i t h)
end
mutual

inductive Mk where
  | z
  | l (m : Mk)
  | t (ms : Mks)
inductive Mks where
  | nil
  | cons (m : Mk) (r : Mks)
end
inductive Ob where
  | ff
  | tt
  | dp (m : Mk)
  | al
inductive Slot where
  | un
  | fz (d : D)
  | ow (d : D)
  | io (d : D)
  | dp (m : Mk) (d : D)
abbrev Env := List Slot
def Ct (H : Hp) (a : Addr) : Prop := ∃ o, H a = some o ∧ ∀ xs, o ≠ .tup xs
theorem Ct.ne {H : Hp} {a : Addr} (h : Ct H a) : H a ≠ none := by obtain ⟨o, e, _⟩ := h; rw [e]; simp
theorem Ct.of {H : Hp} {a : Addr} {o : HO} (e : H a = some o) (n : ∀ xs, o ≠ .tup xs) : Ct H a := ⟨o, e, n⟩
theorem Ct.to {H H' : Hp} {a : Addr} (h : Ct H a) (k : ∀ o, H a = some o → H' a = some o) : Ct H' a := by obtain ⟨o, e, n⟩ := h; exact ⟨o, k o e, n⟩
def Ow (K : PySem.W.Frag) (B H : Hp) (a : Addr) : D → Prop
  | .lst ds => B a = none ∧ ∃ vs, H a = some (.lst vs) ∧ Fzs K B vs ds
  | .dic ks ds => B a = none ∧ ∃ vs, H a = some (.dK (dkv ks vs)) ∧ ks.length = vs.length ∧ Fzs K B vs ds
  | .dct ks ds => B a = none ∧ ∃ vs, H a = some (.dT (dkt ks vs)) ∧ ks.length = vs.length ∧ Fzs K B vs ds
  | .ins c ks ds => B a = none ∧ ∃ vs C dx, H a = some (.ins C dx (dki ks vs)) ∧ ks.length = vs.length ∧ Fzs K B vs ds ∧ PySem.W.nsIn K mainGlobals c = some (some (.ref C))
  | _ => False
theorem Ow.hid {K : PySem.W.Frag} {B H : Hp} {a : Addr} {d : D} (h : Ow K B H a d) : B a = none := by
  cases d with
  | lst ds => exact h.1
  | dic ks ds => exact h.1
  | dct ks ds => exact h.1
  | ins c ks ds => exact h.1
  | _ => exact h.elim
theorem Ow.there {K : PySem.W.Frag} {B H : Hp} {a : Addr} {d : D} (h : Ow K B H a d) : Ct H a := by
  cases d with
  | lst ds => obtain ⟨_, vs, e, _⟩ := h; exact .of e fun _ z => nomatch z
  | dic ks ds => obtain ⟨_, vs, e, _⟩ := h; exact .of e fun _ z => nomatch z
  | dct ks ds => obtain ⟨_, vs, e, _⟩ := h; exact .of e fun _ z => nomatch z
  | ins c ks ds => obtain ⟨_, vs, C, dx, e, _⟩ := h; exact .of e fun _ z => nomatch z
  | _ => exact h.elim
theorem Ow.keep {K : PySem.W.Frag} {B H B' H' : Hp} {a : Addr} {d : D} (h : Ow K B H a d) (e : Ex B B') (h1 : B' a = none) (h2 : ∀ o, H a = some o → H' a = some o) : Ow K B' H' a d := by
  cases d with
  | lst ds => obtain ⟨_, vs, q, f⟩ := h; exact ⟨h1, vs, h2 _ q, f.mono e⟩
  | dic ks ds => obtain ⟨_, vs, q, l, f⟩ := h; exact ⟨h1, vs, h2 _ q, l, f.mono e⟩
  | dct ks ds => obtain ⟨_, vs, q, l, f⟩ := h; exact ⟨h1, vs, h2 _ q, l, f.mono e⟩
  | ins c ks ds => obtain ⟨_, vs, C, dx, q, l, f, k⟩ := h; exact ⟨h1, vs, C, dx, h2 _ q, l, f.mono e, k⟩
  | _ => exact h.elim
theorem Ow.fz {K : PySem.W.Frag} {B H : Hp} {a : Addr} {d : D} (h : Ow K B H a d) : ∃ o, H a = some o ∧ Fz K (upd B a o) (.ref a) d := by
  cases d with
  | lst ds =>
    obtain ⟨n, vs, q, f⟩ := h
    exact ⟨_, q, .lst upd_same (f.mono (Ex.new n))⟩
  | dic ks ds =>
    obtain ⟨n, vs, q, l, f⟩ := h
    exact ⟨_, q, .dic upd_same l (f.mono (Ex.new n))⟩
  | dct ks ds =>
    obtain ⟨n, vs, q, l, f⟩ := h
    exact ⟨_, q, .dct (.inl upd_same) l (f.mono (Ex.new n))⟩
  | ins c ks ds =>
    obtain ⟨n, vs, C, dx, q, l, f, k⟩ := h
    exact ⟨_, q, .ins k upd_same l (f.mono (Ex.new n))⟩
  | _ => exact h.elim
inductive Its (R : V → D → List Addr → Prop) : List V → List D → List Addr → Prop
  | nil : Its R [] [] []
  | cons {v : V} {vs : List V} {d : D} {ds : List D} {S T : List Addr} : R v d S → Its R vs ds T → Its R (v :: vs) (d :: ds) (S ++ T)
mutual
def Tr (K : PySem.W.Frag) (B H : Hp) : Mk → V → D → List Addr → Prop
  | .z, v, d, S => Fz K B v d ∧ S = []
  | .l m, v, d, S => ∃ a vs ds T, v = .ref a ∧ d = .lst ds ∧ B a = none ∧ H a = some (.lst vs) ∧ Its (Tr K B H m) vs ds T ∧ S = a :: T
  | .t ms, v, d, S => ∃ a vs ds, v = .ref a ∧ d = .tup ds ∧ B a = some (.tup vs) ∧ TrT K B H ms vs ds S
def TrT (K : PySem.W.Frag) (B H : Hp) : Mks → List V → List D → List Addr → Prop
  | .nil, vs, ds, S => vs = [] ∧ ds = [] ∧ S = []
  | .cons m r, vs, ds, S => ∃ v vs' d ds' S1 S2, vs = v :: vs' ∧ ds = d :: ds' ∧ Tr K B H m v d S1 ∧ TrT K B H r vs' ds' S2 ∧ S = S1 ++ S2
end
theorem Its.imp {R R' : V → D → List Addr → Prop} {vs : List V} {ds : List D} {S : List Addr} (h : Its R vs ds S) : (∀ v d T, R v d T → (∀ a ∈ T, a ∈ S) → R' v d T) → Its R' vs ds S := by
  induction h with
  | nil => exact fun _ => .nil
  | cons a t ih => exact fun k => .cons (k _ _ _ a fun x hx => List.mem_append_left _ hx) (ih fun v d T r q => k v d T r fun x hx => List.mem_append_right _ (q x hx))
theorem Its.all {R : V → D → List Addr → Prop} {p : Addr → Prop} {vs : List V} {ds : List D} {S : List Addr} (h : Its R vs ds S) (k : ∀ v d T, R v d T → ∀ a ∈ T, p a) : ∀ a ∈ S, p a := by
  induction h with
  | nil => exact fun a q => nomatch q
  | cons a t ih => exact fun x q => (List.mem_append.mp q).elim (k _ _ _ a x) (ih x)
theorem Its.det {R R' : V → D → List Addr → Prop} {vs : List V} {ds ds' : List D} {S S' : List Addr} (h : Its R vs ds S) (h' : Its R' vs ds' S') (k : ∀ v d d' T T', R v d T → R' v d' T' → T = T') : S = S' := by
  induction h generalizing ds' S' with
  | nil => cases h'; rfl
  | cons a t ih =>
    cases h' with
    | cons a' t' => rw [k _ _ _ _ _ a a', ih t']
section
variable {K : PySem.W.Frag} {B B' H H' : Hp}
mutual
theorem Tr.keep : ∀ {m : Mk} {v : V} {d : D} {S : List Addr}, Tr K B H m v d S → Ex B B' → (∀ a ∈ S, B' a = none) → (∀ a ∈ S, ∀ o, H a = some o → H' a = some o) → Tr K B' H' m v d S
  | .z, _, _, _, h, e, _, _ => by
    unfold Tr at h ⊢
    exact ⟨h.1.mono e, h.2⟩
  | .l m, _, _, _, h, e, h1, h2 => by
    unfold Tr at h ⊢
    obtain ⟨a, vs, ds, T, rfl, rfl, b, q, i, rfl⟩ := h
    exact ⟨a, vs, ds, T, rfl, rfl, h1 a (by simp), h2 a (by simp) _ q, i.imp fun v d T' r s => Tr.keep (m := m) r e (fun x hx => h1 x (List.mem_cons_of_mem _ (s x hx))) (fun x hx => h2 x (List.mem_cons_of_mem _ (s x hx))), rfl⟩
  | .t ms, _, _, _, h, e, h1, h2 => by
    unfold Tr at h ⊢
    obtain ⟨a, vs, ds, rfl, rfl, b, i⟩ := h
    exact ⟨a, vs, ds, rfl, rfl, e _ _ b, TrT.keep (ms := ms) i e h1 h2⟩
theorem TrT.keep : ∀ {ms : Mks} {vs : List V} {ds : List D} {S : List Addr}, TrT K B H ms vs ds S → Ex B B' → (∀ a ∈ S, B' a = none) → (∀ a ∈ S, ∀ o, H a = some o → H' a = some o) → TrT K B' H' ms vs ds S
  | .nil, _, _, _, h, _, _, _ => by
    unfold TrT at h ⊢
    exact h
  | .cons m r, _, _, _, h, e, h1, h2 => by
    unfold TrT at h ⊢
    obtain ⟨v, vs, d, ds, S1, S2, rfl, rfl, t1, t2, rfl⟩ := h
    exact ⟨v, vs, d, ds, S1, S2, rfl, rfl, Tr.keep (m := m) t1 e (fun x hx => h1 x (List.mem_append_left _ hx)) (fun x hx => h2 x (List.mem_append_left _ hx)), TrT.keep (ms := r) t2 e (fun x hx => h1 x (List.mem_append_right _ hx)) (fun x hx => h2 x (List.mem_append_right _ hx)), rfl⟩
end
mutual
theorem Tr.det : ∀ {m : Mk} {v : V} {d d' : D} {S S' : List Addr}, Tr K B H m v d S → Tr K B H m v d' S' → S = S'
  | .z, _, _, _, _, _, h, h' => by
    unfold Tr at h h'
    rw [h.2, h'.2]
  | .l m, _, _, _, _, _, h, h' => by
    unfold Tr at h h'
    obtain ⟨a, vs, ds, T, rfl, rfl, b, q, i, rfl⟩ := h
    obtain ⟨a', vs', ds', T', e, rfl, b', q', i', rfl⟩ := h'
    injection e with e; subst e
    rw [q] at q'; injection q' with q'; injection q' with q'; subst q'
    rw [i.det i' fun v d d' T T' r r' => Tr.det (m := m) r r']
  | .t ms, _, _, _, _, _, h, h' => by
    unfold Tr at h h'
    obtain ⟨a, vs, ds, rfl, rfl, b, i⟩ := h
    obtain ⟨a', vs', ds', e, rfl, b', i'⟩ := h'
    injection e with e; subst e
    rw [b] at b'; injection b' with b'; injection b' with b'; subst b'
    rw [TrT.det (ms := ms) i i']
theorem TrT.det : ∀ {ms : Mks} {vs : List V} {ds ds' : List D} {S S' : List Addr}, TrT K B H ms vs ds S → TrT K B H ms vs ds' S' → S = S'
  | .nil, _, _, _, _, _, h, h' => by
    unfold TrT at h h'
    rw [h.2.2, h'.2.2]
  | .cons m r, _, _, _, _, _, h, h' => by
    unfold TrT at h h'
    obtain ⟨v, vs, d, ds, S1, S2, rfl, rfl, t1, t2, rfl⟩ := h
    obtain ⟨v', vs', d', ds', S1', S2', e, rfl, t1', t2', rfl⟩ := h'
    injection e with e1 e2; subst e1; subst e2
    rw [Tr.det (m := m) t1 t1', TrT.det (ms := r) t2 t2']
end
mutual
theorem Tr.hid : ∀ {m : Mk} {v : V} {d : D} {S : List Addr}, Tr K B H m v d S → ∀ a ∈ S, B a = none ∧ Ct H a
  | .z, _, _, _, h => by
    unfold Tr at h
    rw [h.2]; exact fun a q => nomatch q
  | .l m, _, _, _, h => by
    unfold Tr at h
    obtain ⟨a, vs, ds, T, rfl, rfl, b, q, i, rfl⟩ := h
    intro x hx
    rcases List.mem_cons.mp hx with rfl | hx
    · exact ⟨b, .of q fun _ z => nomatch z⟩
    · exact i.all (fun v d T r => Tr.hid (m := m) r) x hx
  | .t ms, _, _, _, h => by
    unfold Tr at h
    obtain ⟨a, vs, ds, rfl, rfl, b, i⟩ := h
    exact TrT.hid (ms := ms) i
theorem TrT.hid : ∀ {ms : Mks} {vs : List V} {ds : List D} {S : List Addr}, TrT K B H ms vs ds S → ∀ a ∈ S, B a = none ∧ Ct H a
  | .nil, _, _, _, h => by
    unfold TrT at h
    rw [h.2.2]; exact fun a q => nomatch q
  | .cons m r, _, _, _, h => by
    unfold TrT at h
    obtain ⟨v, vs, d, ds, S1, S2, rfl, rfl, t1, t2, rfl⟩ := h
    exact fun x hx => (List.mem_append.mp hx).elim (Tr.hid (m := m) t1 x) (TrT.hid (ms := r) t2 x)
end
def frzB (B H : Hp) (S : List Addr) : Hp := fun a => if a ∈ S then H a else B a
theorem frzB_in {S : List Addr} {a : Addr} (h : a ∈ S) : frzB B H S a = H a := if_pos h
theorem frzB_out {S : List Addr} {a : Addr} (h : a ∉ S) : frzB B H S a = B a := if_neg h
theorem frzB_ex {S : List Addr} (ex : Ex B H) : Ex B (frzB B H S) := fun a o e => by
  by_cases h : a ∈ S
  · rw [frzB_in h]; exact ex a o e
  · rw [frzB_out h]; exact e
theorem frzB_up {S : List Addr} (ex : Ex B H) : Ex (frzB B H S) H := fun a o e => by
  by_cases h : a ∈ S
  · rw [frzB_in h] at e; exact e
  · rw [frzB_out h] at e; exact ex a o e
theorem Its.fzs {m : Mk} {T : List Addr} {vs : List V} {ds : List D} {S : List Addr} (k : ∀ v d S, Tr K B H m v d S → (∀ a ∈ S, a ∈ T) → Fz K (frzB B H T) v d) (h : Its (Tr K B H m) vs ds S) : (∀ a ∈ S, a ∈ T) → Fzs K (frzB B H T) vs ds := by
  induction h with
  | nil => exact fun _ => .nil
  | cons a t ih => exact fun hs => .cons (k _ _ _ a fun x hx => hs x (List.mem_append_left _ hx)) (ih fun x hx => hs x (List.mem_append_right _ hx))
mutual
theorem Tr.fz (ex : Ex B H) {T : List Addr} : ∀ {m : Mk} {v : V} {d : D} {S : List Addr}, Tr K B H m v d S → (∀ a ∈ S, a ∈ T) → Fz K (frzB B H T) v d
  | .z, _, _, _, h, _ => by
    unfold Tr at h
    exact h.1.mono (frzB_ex ex)
  | .l m, _, _, _, h, s => by
    unfold Tr at h
    obtain ⟨a, vs, ds, S, rfl, rfl, b, q, i, rfl⟩ := h
    exact .lst (by rw [frzB_in (s a (by simp))]; exact q) (i.fzs (fun v d S r => Tr.fz ex (m := m) r) fun x hx => s x (List.mem_cons_of_mem _ hx))
  | .t ms, _, _, _, h, s => by
    unfold Tr at h
    obtain ⟨a, vs, ds, rfl, rfl, b, i⟩ := h
    exact .tup (.inl (.inl (frzB_ex ex _ _ b))) (TrT.fz ex (ms := ms) i s)
theorem TrT.fz (ex : Ex B H) {T : List Addr} : ∀ {ms : Mks} {vs : List V} {ds : List D} {S : List Addr}, TrT K B H ms vs ds S → (∀ a ∈ S, a ∈ T) → Fzs K (frzB B H T) vs ds
  | .nil, _, _, _, h, _ => by
    unfold TrT at h
    obtain ⟨rfl, rfl, _⟩ := h
    exact .nil
  | .cons m r, _, _, _, h, s => by
    unfold TrT at h
    obtain ⟨v, vs, d, ds, S1, S2, rfl, rfl, t1, t2, rfl⟩ := h
    exact .cons (Tr.fz ex (m := m) t1 fun x hx => s x (List.mem_append_left _ hx)) (TrT.fz ex (ms := r) t2 fun x hx => s x (List.mem_append_right _ hx))
end
end
structure Fr where
  B0 : Hp
  H0 : Hp
  A : Addr → Prop
  P : List (Option Addr)
def owned : Slot → Bool
  | .ow _ => true
  | .io _ => true
  | .dp _ _ => true
  | _ => false
def flat : Slot → Bool
  | .ow _ => true
  | .io _ => true
  | _ => false
theorem flat_owned {s : Slot} (h : flat s = true) : owned s = true := by cases s <;> first | rfl | cases h
def Slot.dat : Slot → D
  | .un => .non
  | .fz d => d
  | .ow d => d
  | .io d => d
  | .dp _ d => d
def Ft (K : PySem.W.Frag) (B H : Hp) (v : V) : Slot → List Addr → Prop
  | .ow d, S => ∃ a, v = .ref a ∧ Ow K B H a d ∧ S = [a]
  | .io d, S => ∃ a, v = .ref a ∧ Ow K B H a d ∧ S = [a]
  | .dp m d, S => Tr K B H m v d S ∧ S.Nodup
  | .un, _ => False
  | .fz _, _ => False
section
variable {K : PySem.W.Frag} {B B' H H' : Hp} {v : V} {s : Slot} {S T : List Addr}
theorem Ft.owned (h : Ft K B H v s S) : owned s = true := by cases s <;> first | rfl | exact h.elim
theorem Ft.hid (h : Ft K B H v s S) : ∀ a ∈ S, B a = none ∧ Ct H a := by
  cases s with
  | un => exact h.elim
  | fz _ => exact h.elim
  | ow d => obtain ⟨a, rfl, w, rfl⟩ := h; intro x hx; rw [List.mem_singleton.mp hx]; exact ⟨w.hid, w.there⟩
  | io d => obtain ⟨a, rfl, w, rfl⟩ := h; intro x hx; rw [List.mem_singleton.mp hx]; exact ⟨w.hid, w.there⟩
  | dp m d => exact h.1.hid
theorem Ft.keep (h : Ft K B H v s S) (e : Ex B B') (h1 : ∀ a ∈ S, B' a = none) (h2 : ∀ a ∈ S, ∀ o, H a = some o → H' a = some o) : Ft K B' H' v s S := by
  cases s with
  | un => exact h.elim
  | fz _ => exact h.elim
  | ow d => obtain ⟨a, rfl, w, rfl⟩ := h; exact ⟨a, rfl, w.keep e (h1 a (by simp)) (h2 a (by simp)), rfl⟩
  | io d => obtain ⟨a, rfl, w, rfl⟩ := h; exact ⟨a, rfl, w.keep e (h1 a (by simp)) (h2 a (by simp)), rfl⟩
  | dp m d => exact ⟨h.1.keep e h1 h2, h.2⟩
theorem Ft.det (h : Ft K B H v s S) (h' : Ft K B H v s T) : S = T := by
  cases s with
  | un => exact h.elim
  | fz _ => exact h.elim
  | ow d => obtain ⟨a, rfl, w, rfl⟩ := h; obtain ⟨a', e, w', rfl⟩ := h'; injection e with e; rw [e]
  | io d => obtain ⟨a, rfl, w, rfl⟩ := h; obtain ⟨a', e, w', rfl⟩ := h'; injection e with e; rw [e]
  | dp m d => exact h.1.det h'.1
theorem Ft.one {a : Addr} (h : Ft K B H (.ref a) s S) (f : flat s = true) : Ow K B H a s.dat ∧ S = [a] := by
  cases s with
  | ow d => obtain ⟨a', e, w, rfl⟩ := h; injection e with e; subst e; exact ⟨w, rfl⟩
  | io d => obtain ⟨a', e, w, rfl⟩ := h; injection e with e; subst e; exact ⟨w, rfl⟩
  | _ => cases f
theorem Ft.mk {a : Addr} (w : Ow K B H a s.dat) (f : flat s = true) : Ft K B H (.ref a) s [a] := by
  cases s with
  | ow d => exact ⟨a, rfl, w, rfl⟩
  | io d => exact ⟨a, rfl, w, rfl⟩
  | _ => cases f
end
def OwS (K : PySem.W.Frag) (B H : Hp) (ρ : Env) (σ : St) (a : Addr) : Prop := ∃ (i : Nat) (s : Slot) (v : V) (S : List Addr), ρ[i]? = some s ∧ σ[i]? = some (some v) ∧ Ft K B H v s S ∧ a ∈ S
structure Lv (K : PySem.W.Frag) (F : Fr) (ρ : Env) (σ : St) (B H : Hp) : Prop where
  ex : Ex B H
  kept : ∀ a o, F.H0 a = some o → ¬ F.A a → H a = some o
  there : ∀ a, F.H0 a ≠ none → H a ≠ none
  exB : Ex F.B0 B
  hid : ∀ a, F.B0 a = none → Ct F.H0 a → ¬ F.A a → B a = none
  fz : ∀ (i : Nat) (d : D), ρ[i]? = some (Slot.fz d) → ∃ v, σ[i]? = some (some v) ∧ Fz K B v d
  own0 : ∀ (i : Nat) (s : Slot), ρ[i]? = some s → owned s = true → ∃ v S, σ[i]? = some (some v) ∧ Ft K B H v s S ∧ ∀ a ∈ S, F.A a ∨ F.H0 a = none
  io : ∀ (i : Nat) (d : D), ρ[i]? = some (Slot.io d) → ∃ a, F.P[i]? = some (some a) ∧ σ[i]? = some (some (V.ref a))
  ne0 : ∀ (i j : Nat) (s t : Slot) (v w : V) (S T : List Addr) (a : Addr), ρ[i]? = some s → ρ[j]? = some t → σ[i]? = some (some v) → σ[j]? = some (some w) → Ft K B H v s S → Ft K B H w t T → a ∈ S → a ∈ T → i = j
  len : ρ.length = σ.length
section
variable {K : PySem.W.Frag} {F : Fr} {ρ : Env} {σ : St} {B H B' H' : Hp} {t : Slot}
theorem Lv.ow (L : Lv K F ρ σ B H) (i : Nat) (s : Slot) (e : ρ[i]? = some s) (f : flat s = true) : ∃ a, σ[i]? = some (some (V.ref a)) ∧ Ow K B H a s.dat ∧ (F.A a ∨ F.H0 a = none) := by
  obtain ⟨v, S, q, w, g⟩ := L.own0 i s e (flat_owned f)
  have hv : ∃ a, v = .ref a := by
    cases s with
    | ow d => obtain ⟨a, h, _⟩ := w; exact ⟨a, h⟩
    | io d => obtain ⟨a, h, _⟩ := w; exact ⟨a, h⟩
    | _ => cases f
  obtain ⟨a, rfl⟩ := hv
  obtain ⟨w1, rfl⟩ := w.one f
  exact ⟨a, q, w1, g a (by simp)⟩
theorem OwS.mk {i : Nat} {s : Slot} {a : Addr} (e : ρ[i]? = some s) (f : flat s = true) (q : σ[i]? = some (some (V.ref a))) (w : Ow K B H a s.dat) : OwS K B H ρ σ a := ⟨i, s, _, [a], e, q, .mk w f, by simp⟩
theorem Lv.hidOw (L : Lv K F ρ σ B H) {a : Addr} (h : OwS K B H ρ σ a) : B a = none ∧ Ct H a := by
  obtain ⟨i, s, v, S, e, q, w, m⟩ := h
  exact w.hid a m
theorem Lv.move (L : Lv K F ρ σ B H) (ex : Ex B' H') (eB : Ex B B') (k : ∀ a, OwS K B H ρ σ a → B' a = none ∧ ∀ o, H a = some o → H' a = some o)
    (kept : ∀ a o, F.H0 a = some o → ¬ F.A a → H' a = some o) (there : ∀ a, F.H0 a ≠ none → H' a ≠ none) (hid : ∀ a, F.B0 a = none → Ct F.H0 a → ¬ F.A a → B' a = none) : Lv K F ρ σ B' H' := by
  have kp : ∀ {i : Nat} {s : Slot} {v : V} {S : List Addr}, ρ[i]? = some s → σ[i]? = some (some v) → Ft K B H v s S → Ft K B' H' v s S := fun {i s v S} e q w =>
    w.keep eB (fun a m => (k a ⟨i, s, v, S, e, q, w, m⟩).1) (fun a m => (k a ⟨i, s, v, S, e, q, w, m⟩).2)
  refine ⟨ex, kept, there, L.exB.trans eB, hid, fun i d e => ?_, fun i s e w => ?_, L.io, fun i j s t v w S T a e1 e2 q1 q2 f1 f2 m1 m2 => ?_, L.len⟩
  · obtain ⟨v, e1, f⟩ := L.fz i d e
    exact ⟨v, e1, f.mono eB⟩
  · obtain ⟨v, S, q, f, g⟩ := L.own0 i s e w
    exact ⟨v, S, q, kp e q f, g⟩
  · obtain ⟨v', S', q1', f1', _⟩ := L.own0 i s e1 f1.owned
    obtain ⟨w', T', q2', f2', _⟩ := L.own0 j t e2 f2.owned
    rw [q1] at q1'; injection q1' with q1'; injection q1' with q1'; subst q1'
    rw [q2] at q2'; injection q2' with q2'; injection q2' with q2'; subst q2'
    rw [f1.det (kp e1 q1 f1')] at m1
    rw [f2.det (kp e2 q2 f2')] at m2
    exact L.ne0 i j s t v w S' T' a e1 e2 q1 q2 f1' f2' m1 m2
theorem Lv.few (L : Lv K F ρ σ B H) {ρ' : Env} {σ' : St} (len : ρ'.length = σ'.length) (fz : ∀ (i : Nat) (d : D), ρ'[i]? = some (Slot.fz d) → ∃ v, σ'[i]? = some (some v) ∧ Fz K B v d)
    (ow : ∀ (i : Nat) (s : Slot), ρ'[i]? = some s → owned s = true → ρ[i]? = some s ∧ σ'[i]? = σ[i]?) : Lv K F ρ' σ' B H := by
  refine ⟨L.ex, L.kept, L.there, L.exB, L.hid, fz, fun i s e w => ?_, fun i d e => ?_, fun i j s t v w S T a e1 e2 q1 q2 f1 f2 m1 m2 => ?_, len⟩
  · obtain ⟨h1, h2⟩ := ow i s e w
    rw [h2]; exact L.own0 i s h1 w
  · obtain ⟨h1, h2⟩ := ow i _ e rfl
    rw [h2]; exact L.io i d h1
  · obtain ⟨h1, h2⟩ := ow i s e1 f1.owned
    obtain ⟨h3, h4⟩ := ow j t e2 f2.owned
    exact L.ne0 i j s t v w S T a h1 h3 (h2 ▸ q1) (h4 ▸ q2) f1 f2 m1 m2
theorem Lv.alloc (L : Lv K F ρ σ B H) {p : Addr} {o : HO} (h : H p = none) : Lv K F ρ σ (upd B p o) (upd H p o) := by
  have nB : B p = none := L.ex.nn h
  refine L.move L.ex.both (Ex.new nB) (fun a w => ?_) (fun a u e n => ?_) (fun a e => upd_some (L.there a e)) (fun a e n m => ?_)
  · have nap : a ≠ p := fun z => (L.hidOw w).2.ne (z ▸ h)
    exact ⟨by rw [upd_ne nap]; exact (L.hidOw w).1, fun u q => by rw [upd_ne nap]; exact q⟩
  · have := L.kept a u e n
    rw [upd_ne (ne_of_none this h)]; exact this
  · have := L.hid a e n m
    by_cases q : a = p
    · subst q
      cases z : F.H0 a with
      | none => exact absurd z n.ne
      | some u => rw [L.kept a u z m] at h; cases h
    · rw [upd_ne q]; exact this
theorem Lv.allocO (L : Lv K F ρ σ B H) {p : Addr} {o : HO} (h : H p = none) : Lv K F ρ σ B (upd H p o) := by
  have nB : B p = none := L.ex.nn h
  refine L.move (L.ex.right nB) (Ex.refl _) (fun a w => ?_) (fun a u e n => ?_) (fun a e => upd_some (L.there a e)) L.hid
  · have nap : a ≠ p := fun z => (L.hidOw w).2.ne (z ▸ h)
    exact ⟨(L.hidOw w).1, fun u q => by rw [upd_ne nap]; exact q⟩
  · have := L.kept a u e n
    rw [upd_ne (ne_of_none this h)]; exact this
theorem Lv.freezeS (L : Lv K F ρ σ B H) {S : List Addr} (g : ∀ a ∈ S, F.A a ∨ F.H0 a = none) (no : ∀ a ∈ S, ¬ OwS K B H ρ σ a) : Lv K F ρ σ (frzB B H S) H := by
  refine L.move (frzB_up L.ex) (frzB_ex L.ex) (fun a w => ?_) L.kept L.there (fun a e m k => ?_)
  · exact ⟨by rw [frzB_out fun z => no a z w]; exact (L.hidOw w).1, fun _ q => q⟩
  · rw [frzB_out fun z => (g a z).elim k m.ne]; exact L.hid a e m k
theorem Lv.freeze (L : Lv K F ρ σ B H) {p : Addr} {o : HO} (h : H p = some o) (n : B p = none) (g : F.A p ∨ F.H0 p = none) (no : ¬ OwS K B H ρ σ p) : Lv K F ρ σ (upd B p o) H := by
  have e : frzB B H [p] = upd B p o := by
    funext a
    by_cases z : a = p
    · subst z; rw [frzB_in (by simp), upd_same, h]
    · rw [frzB_out (by simpa using z), upd_ne z]
  rw [← e]
  exact L.freezeS (by simpa using g) (by simpa using no)
theorem Lv.freezeT (L : Lv K F ρ σ B H) {p : Addr} {xs : List V} (h : H p = some (.tup xs)) (n : B p = none) : Lv K F ρ σ (upd B p (.tup xs)) H := by
  refine L.move (fun a o e => ?_) (Ex.new n) (fun a w => ?_) L.kept L.there (fun a e m k => ?_)
  · by_cases z : a = p
    · subst z; rw [upd_same] at e; injection e with e; subst e; exact h
    · rw [upd_ne z] at e; exact L.ex a o e
  · have nap : a ≠ p := fun z => by
      subst z
      obtain ⟨o, e, no⟩ := (L.hidOw w).2
      rw [h] at e; injection e with e; exact no xs e.symm
    exact ⟨by rw [upd_ne nap]; exact (L.hidOw w).1, fun _ q => q⟩
  · have nap : a ≠ p := fun z => by
      subst z
      obtain ⟨o, e, no⟩ := m
      have := L.kept a o e k
      rw [h] at this; injection this with this; exact no xs this.symm
    rw [upd_ne nap]; exact L.hid a e m k
theorem get_set {ρ : Env} {i j : Nat} {t s : Slot} (e : (ρ.set i t)[j]? = some s) : (j = i ∧ s = t ∧ i < ρ.length) ∨ (j ≠ i ∧ ρ[j]? = some s) := by
  by_cases h : i = j
  · subst h
    by_cases l : i < ρ.length
    · rw [List.getElem?_set_self l] at e
      injection e with e; exact .inl ⟨rfl, e.symm, l⟩
    · rw [List.getElem?_eq_none (by rw [List.length_set]; omega)] at e; cases e
  · rw [List.getElem?_set_ne h] at e
    exact .inr ⟨fun z => h z.symm, e⟩
theorem Lv.slot (L : Lv K F ρ σ B H) {i : Nat} {t : Slot} (hn : owned t = false) (hf : ∀ d, t = .fz d → i < ρ.length → ∃ v, σ[i]? = some (some v) ∧ Fz K B v d) : Lv K F (ρ.set i t) σ B H := by
  refine L.few (by rw [List.length_set]; exact L.len) (fun j d e => ?_) (fun j s e w => ?_)
  · rcases get_set e with ⟨rfl, z, l⟩ | ⟨_, e⟩
    · exact hf d z.symm l
    · exact L.fz j d e
  · rcases get_set e with ⟨rfl, z, l⟩ | ⟨_, e⟩
    · rw [z, hn] at w; cases w
    · exact ⟨e, rfl⟩
theorem OwS.un {i : Nat} {a : Addr} (h : OwS K B H (ρ.set i .un) σ a) : ∃ (j : Nat) (s : Slot) (v : V) (S : List Addr), j ≠ i ∧ ρ[j]? = some s ∧ σ[j]? = some (some v) ∧ Ft K B H v s S ∧ a ∈ S := by
  obtain ⟨j, s, v, S, e, q, f, m⟩ := h
  rcases get_set e with ⟨rfl, z, l⟩ | ⟨n, e⟩
  · rw [z] at f; exact f.elim
  · exact ⟨j, s, v, S, n, e, q, f, m⟩
theorem Lv.take (L : Lv K F ρ σ B H) {i : Nat} {s : Slot} (e : ρ[i]? = some s) (w : owned s = true) : ∃ v S, σ[i]? = some (some v) ∧ Ft K B H v s S ∧ (∀ a ∈ S, F.A a ∨ F.H0 a = none) ∧ (∀ a ∈ S, ¬ OwS K B H (ρ.set i .un) σ a) ∧ Lv K F (ρ.set i .un) σ B H := by
  obtain ⟨v, S, q, f, g⟩ := L.own0 i s e w
  refine ⟨v, S, q, f, g, fun a m h => ?_, L.slot rfl (fun d z => nomatch z)⟩
  obtain ⟨j, s', v', S', n, e', q', f', m'⟩ := h.un
  exact n (L.ne0 j i s' s v' v S' S a e' e q' q f' f m' m)
theorem Lv.frz0 (L : Lv K F ρ σ B H) {i : Nat} {s : Slot} (e : ρ[i]? = some s) (w : owned s = true) : ∃ B' v, Ex B B' ∧ σ[i]? = some (some v) ∧ Fz K B' v s.dat ∧ Lv K F (ρ.set i (.fz s.dat)) σ B' H := by
  obtain ⟨v, S, q, f, g, no, L1⟩ := L.take e w
  have l : i < ρ.length := (List.getElem?_eq_some_iff.mp e).1
  have L2 := L1.freezeS g no
  have h2 : Fz K (frzB B H S) v s.dat := by
    have flt : ∀ {a : Addr} {d : D}, v = .ref a → Ow K B H a d → S = [a] → Fz K (frzB B H S) v d := by
      intro a d e1 w1 e2
      subst e1; subst e2
      obtain ⟨o, h1, h2⟩ := w1.fz
      refine h2.mono fun b u hb => ?_
      by_cases z : b = a
      · subst z; rw [upd_same] at hb; rw [frzB_in (by simp), h1]; exact hb
      · rw [upd_ne z] at hb; rw [frzB_out (by simpa using z)]; exact hb
    cases s with
    | un => cases w
    | fz _ => cases w
    | ow d => obtain ⟨a, e1, w1, e2⟩ := f; exact flt e1 w1 e2
    | io d => obtain ⟨a, e1, w1, e2⟩ := f; exact flt e1 w1 e2
    | dp m d => exact f.1.fz L.ex fun a m => m
  refine ⟨_, v, frzB_ex L.ex, q, h2, ?_⟩
  have L3 := L2.slot (i := i) (t := .fz s.dat) rfl (fun d' z _ => by injection z with z; subst z; exact ⟨_, q, h2⟩)
  rw [List.set_set] at L3
  exact L3
theorem Lv.frz (L : Lv K F ρ σ B H) {i : Nat} {d : D} (e : ρ[i]? = some (.ow d)) : ∃ B' v, Ex B B' ∧ σ[i]? = some (some v) ∧ Fz K B' v d ∧ Lv K F (ρ.set i (.fz d)) σ B' H := L.frz0 e rfl
theorem Lv.free (L : Lv K F ρ σ B H) {p : Addr} (h : H p = none) : F.H0 p = none := by
  cases q : F.H0 p with
  | none => rfl
  | some o => exact absurd h (L.there p (by rw [q]; simp))
theorem Lv.own (L : Lv K F ρ σ B H) {i : Nat} {t : Slot} {v : V} {S : List Addr} (e : σ[i]? = some (some v)) (w : Ft K B H v t S) (g : ∀ a ∈ S, F.A a ∨ F.H0 a = none) (no : ∀ a ∈ S, ¬ OwS K B H (ρ.set i .un) σ a)
    (hp : ∀ d, t = .io d → ∃ a, v = .ref a ∧ F.P[i]? = some (some a)) : Lv K F (ρ.set i t) σ B H := by
  have ht := w.owned
  have inj : ∀ {u : V}, σ[i]? = some (some u) → u = v := fun {u} q => by rw [e] at q; injection q with q; injection q with q; exact q.symm
  have non : ∀ {j : Nat} {s : Slot} {u : V} {T : List Addr} {a : Addr}, j ≠ i → ρ[j]? = some s → σ[j]? = some (some u) → Ft K B H u s T → a ∈ T → a ∈ S → False := fun {j s u T a} n e1 q f m m2 =>
    no a m2 ⟨j, s, u, T, by rw [List.getElem?_set_ne (Ne.symm n)]; exact e1, q, f, m⟩
  refine ⟨L.ex, L.kept, L.there, L.exB, L.hid, fun j d e1 => ?_, fun j s e1 w1 => ?_, fun j d e1 => ?_, fun j k s u b c S1 T1 a e1 e2 q1 q2 f1 f2 m1 m2 => ?_, by rw [List.length_set]; exact L.len⟩
  · rcases get_set e1 with ⟨rfl, z, l⟩ | ⟨n, e1⟩
    · rw [← z] at ht; cases ht
    · exact L.fz j d e1
  · rcases get_set e1 with ⟨rfl, z, l⟩ | ⟨n, e1⟩
    · rw [z]; exact ⟨v, S, e, w, g⟩
    · exact L.own0 j s e1 w1
  · rcases get_set e1 with ⟨rfl, z, l⟩ | ⟨n, e1⟩
    · obtain ⟨a, h1, h2⟩ := hp d z.symm
      exact ⟨a, h2, by rw [e, h1]⟩
    · exact L.io j d e1
  · rcases get_set e1 with ⟨rfl, z, l⟩ | ⟨n, e1⟩
    · rcases get_set e2 with ⟨rfl, z2, l⟩ | ⟨n2, e2⟩
      · rfl
      · rw [z, inj q1] at f1
        rw [f1.det w] at m1
        exact (non n2 e2 q2 f2 m2 m1).elim
    · rcases get_set e2 with ⟨z1, z, l⟩ | ⟨n2, e2⟩
      · rw [z1] at q2
        rw [z, inj q2] at f2
        rw [f2.det w] at m2
        exact (non n e1 q1 f1 m1 m2).elim
      · exact L.ne0 j k s u b c S1 T1 a e1 e2 q1 q2 f1 f2 m1 m2
theorem Lv.store (L : Lv K F ρ σ B H) {i : Nat} {v : V} (hn : owned t = false) (hf : ∀ d, t = .fz d → Fz K B v d) : Lv K F (ρ.set i t) (σ.set i (some v)) B H := by
  have sg : ∀ {j : Nat}, j ≠ i → (σ.set i (some v))[j]? = σ[j]? := fun {j} h => List.getElem?_set_ne (Ne.symm h)
  refine L.few (by rw [List.length_set, List.length_set]; exact L.len) (fun j d e1 => ?_) (fun j s e1 w1 => ?_)
  · rcases get_set e1 with ⟨rfl, z, l⟩ | ⟨n, e1⟩
    · exact ⟨v, List.getElem?_set_self (by rw [← L.len]; exact l), hf d z.symm⟩
    · rw [sg n]; exact L.fz j d e1
  · rcases get_set e1 with ⟨rfl, z, l⟩ | ⟨n, e1⟩
    · rw [z, hn] at w1; cases w1
    · exact ⟨e1, sg n⟩
theorem OwS.store {i : Nat} {v : V} {a : Addr} (h : OwS K B H (ρ.set i .un) (σ.set i (some v)) a) : OwS K B H ρ σ a := by
  obtain ⟨j, s, u, S, n, e, q, f, m⟩ := h.un
  rw [List.getElem?_set_ne (Ne.symm n)] at q
  exact ⟨j, s, u, S, e, q, f, m⟩
theorem Lv.hidW0 (L : Lv K F ρ σ B H) {p : Addr} {o : HO} (hB : B p = none) (g : F.A p ∨ F.H0 p = none) (no : ¬ OwS K B H ρ σ p) : Lv K F ρ σ B (upd H p o) := by
  refine L.move (L.ex.right hB) (Ex.refl _) (fun a w => ?_) (fun a u e n => ?_) (fun a e => upd_some (L.there a e)) L.hid
  · have nap : a ≠ p := fun z => no (z ▸ w)
    exact ⟨(L.hidOw w).1, fun u q => by rw [upd_ne nap]; exact q⟩
  · have na : a ≠ p := fun z => by
      subst z
      rcases g with g | g
      · exact n g
      · rw [g] at e; cases e
    rw [upd_ne na]; exact L.kept a u e n
theorem OwS.chg {p a : Addr} {o : HO} (L : Lv K F ρ σ B H) (no : ¬ OwS K B H ρ σ p) (h : OwS K B (upd H p o) ρ σ a) : OwS K B H ρ σ a := by
  obtain ⟨i, s, v, S, e, q, f, m⟩ := h
  obtain ⟨v', S', q', f', g⟩ := L.own0 i s e f.owned
  rw [q] at q'; injection q' with q'; injection q' with q'; subst q'
  have f2 : Ft K B (upd H p o) v s S' := f'.keep (Ex.refl _) (fun b hb => (f'.hid b hb).1) (fun b hb u e1 => by
    have nb : b ≠ p := fun z => no (z ▸ ⟨i, s, v, S', e, q, f', hb⟩)
    rw [upd_ne nb]; exact e1)
  rw [f.det f2] at m
  exact ⟨i, s, v, S', e, q, f', m⟩
theorem OwS.back {a : Addr} (L : Lv K F ρ σ B H) (eB : Ex B B') (k : ∀ a, OwS K B H ρ σ a → B' a = none ∧ ∀ o, H a = some o → H' a = some o) (h : OwS K B' H' ρ σ a) : OwS K B H ρ σ a := by
  obtain ⟨i, s, v, S, e, q, f, m⟩ := h
  obtain ⟨v', S', q', f', g⟩ := L.own0 i s e f.owned
  rw [q] at q'; injection q' with q'; injection q' with q'; subst q'
  have f2 : Ft K B' H' v s S' := f'.keep eB (fun b hb => (k b ⟨i, s, v, S', e, q, f', hb⟩).1) (fun b hb => (k b ⟨i, s, v, S', e, q, f', hb⟩).2)
  rw [f.det f2] at m
  exact ⟨i, s, v, S', e, q, f', m⟩
theorem Lv.write (L : Lv K F ρ σ B H) {i : Nat} {s t : Slot} {a : Addr} {o : HO} (e : ρ[i]? = some s) (ho : flat s = true) (q : σ[i]? = some (some (V.ref a))) (ht : (∃ d, s = .ow d ∧ ∃ d', t = .ow d') ∨ ∃ d, s = .io d ∧ ∃ d', t = .io d') (w : Ow K B (upd H a o) a t.dat) : Lv K F (ρ.set i t) σ B (upd H a o) := by
  obtain ⟨v, S, q', f, g, no, L1⟩ := L.take e (flat_owned ho)
  rw [q] at q'; injection q' with q'; injection q' with q'; subst q'
  obtain ⟨w0, rfl⟩ := f.one ho
  have na := no a (by simp)
  have L2 := L1.hidW0 (o := o) w0.hid (g a (by simp)) na
  have ft : flat t = true := by rcases ht with ⟨_, _, _, z⟩ | ⟨_, _, _, z⟩ <;> rw [z] <;> rfl
  have L3 := L2.own (i := i) (t := t) q (.mk w ft) (by simpa using g a (by simp)) (fun b hb h => by
    rw [List.set_set] at h
    rw [List.mem_singleton.mp hb] at h
    exact na (h.chg L1 na)) (fun d z => by
      rcases ht with ⟨_, _, _, y⟩ | ⟨d0, y, _, _⟩
      · rw [y] at z; cases z
      · obtain ⟨b, p1, p2⟩ := L.io i d0 (by rw [e, y])
        rw [q] at p2
        obtain rfl : a = b := by injection p2 with z; injection z with z; injection z
        exact ⟨a, rfl, p1⟩)
  rw [List.set_set] at L3
  exact L3
end
end Dt
namespace Dt
open PySem PySem.Spec PyProof.Rows L2
inductive Rs (α : Type) where
  | ok (a : α) (ρ : Env)
  | rz (c : Str) (ρ : Env)
  | fail
abbrev M (α : Type) : Type := Env → Rs α
def M.pure {α : Type} (a : α) : M α := fun ρ => .ok a ρ
def M.bind {α β : Type} (f : M α) (g : α → M β) : M β := fun ρ => match f ρ with
  | .ok a ρ' => g a ρ'
  | .rz c ρ' => .rz c ρ'
  | .fail => .fail
def M.fail {α : Type} : M α := fun _ => .fail
def M.opt {α : Type} (o : Option α) : M α := fun ρ => match o with
  | some a => .ok a ρ
  | none => .fail
def M.raise {α : Type} (c : Str) : M α := fun ρ => .rz c ρ
inductive Fl where
  | nx
  | bk
  | ct
  | rt (d : D) (o : Ob)
def cv (X : Cx) (c : Str) : Value := (X.mg c).getD .none
structure We (X : Cx) (e : Expr) (σ : St) (H : Hp) (Q : VK) : Prop where
  run : ∀ (pins : List (Addr × Obj)) (s : Shared), Inv X pins σ H s → wpAny (model X.prog X.w) X.A (eval e X.env) (EP X pins σ Q) X.xe s
def we (X : Cx) (e : Expr) : TE := We X e
structure Wt (X : Cx) (e : Expr) (σ : St) (H : Hp) (Q : Bool → Hp → Prop) : Prop where
  run : ∀ (pins : List (Addr × Obj)) (s : Shared), Inv X pins σ H s → wpAny (model X.prog X.w) X.A (isTrue e X.env (eval e X.env)) (TP X pins σ Q) X.xe s
def wt (X : Cx) (e : Expr) : TT := Wt X e
structure Wa (X : Cx) (es : List Expr) (σ : St) (H : Hp) (Q : List V → Hp → Prop) : Prop where
  run : ∀ (pos : Pos) (pins : List (Addr × Obj)) (s : Shared), Inv X pins σ H s → wpAny (model X.prog X.w) X.A (spliced (backTo pos (starEach es X.env))) (AP X pins σ Q) X.xe s
def wa (X : Cx) (es : List Expr) : TA := Wa X es
structure Ws (X : Cx) (st : Stmt) (D : Ends) (σ : St) (H : Hp) : Prop where
  run : ∀ (pins : List (Addr × Obj)) (s : Shared), Inv X pins σ H s → wpAny (model X.prog X.w) X.A (exec st X.env) (SP X pins D) X.xe s
def ws (X : Cx) (st : Stmt) : TS := Ws X st
structure Wss (X : Cx) (st : List Stmt) (D : Ends) (σ : St) (H : Hp) : Prop where
  run : ∀ (pins : List (Addr × Obj)) (s : Shared), Inv X pins σ H s → wpAny (model X.prog X.w) X.A (execs st X.env) (SP X pins D) X.xe s
def wss (X : Cx) (st : List Stmt) : TS := Wss X st
section
variable {X : Cx} {e : Expr} {es : List Expr} {st : Stmt} {sts : List Stmt} {σ : St} {H : Hp}
theorem pe_we : PE X e (we X e) := ⟨fun pins s _ _ _ I h => We.run h pins s I⟩
theorem pt_wt : PT X e (wt X e) := ⟨fun pins s _ _ _ I h => Wt.run h pins s I⟩
theorem pa_wa : PA X es (wa X es) := ⟨fun pos pins s _ _ _ I h => Wa.run h pos pins s I⟩
theorem ps_ws : PS X st (ws X st) := ⟨fun pins s _ _ _ I h => Ws.run h pins s I⟩
theorem pss_wss : PSs X sts (wss X sts) := ⟨fun pins s _ _ _ I h => Wss.run h pins s I⟩
theorem PE.we {t : TE} {Q : VK} (h : PE X e t) (q : t σ H Q) : we X e σ H Q := We.mk fun pins s I => h.run pins s σ H Q I q
theorem PT.wt {t : TT} {Q : Bool → Hp → Prop} (h : PT X e t) (q : t σ H Q) : wt X e σ H Q := Wt.mk fun pins s I => h.run pins s σ H Q I q
theorem PA.wa {t : TA} {Q : List V → Hp → Prop} (h : PA X es t) (q : t σ H Q) : wa X es σ H Q := Wa.mk fun pos pins s I => h.run pos pins s σ H Q I q
theorem PS.ws {t : TS} {N : Ends} (h : PS X st t) (q : t N σ H) : ws X st N σ H := Ws.mk fun pins s I => h.run pins s σ H N I q
theorem PSs.wss {t : TS} {N : Ends} (h : PSs X sts t) (q : t N σ H) : wss X sts N σ H := Wss.mk fun pins s I => h.run pins s σ H N I q
end
def Post {α : Type} (X : Cx) (W : WX) (F : Fr) (σ : St) (B : Hp) (r : Rs α) (G : α → Env → Hp → Hp → Prop) : Prop :=
  match r with
  | .ok a ρ' => ∀ B' H', Ex B B' → Lv X.K F ρ' σ B' H' → G a ρ' B' H'
  | .rz c ρ' => ∀ B' H', Ex B B' → Lv X.K F ρ' σ B' H' → W (cv X c) none σ H'
  | .fail => False
section
variable {X : Cx} {W : WX} {F : Fr} {σ : St} {B B1 : Hp} {α β : Type} {ρ : Env}
theorem Post.weak {r : Rs α} {G : α → Env → Hp → Hp → Prop} (h : Post X W F σ B r G) (e : Ex B B1) : Post X W F σ B1 r G := by
  cases r with
  | ok a ρ' => exact fun B' H' e' L => h B' H' (e.trans e') L
  | rz c ρ' => exact fun B' H' e' L => h B' H' (e.trans e') L
  | fail => exact h
theorem Post.imp {r : Rs α} {G G' : α → Env → Hp → Hp → Prop} (h : Post X W F σ B r G) (k : ∀ a ρ' B' H', Ex B B' → Lv X.K F ρ' σ B' H' → G a ρ' B' H' → G' a ρ' B' H') : Post X W F σ B r G' := by
  cases r with
  | ok a ρ' => exact fun B' H' e L => k a ρ' B' H' e L (h B' H' e L)
  | rz c ρ' => exact h
  | fail => exact h
theorem Post.bind {f : M α} {g : α → M β} {G : β → Env → Hp → Hp → Prop} (h : Post X W F σ B (M.bind f g ρ) G) : Post X W F σ B (f ρ) (fun a ρ1 B1 _ => Post X W F σ B1 (g a ρ1) G) := by
  unfold M.bind at h
  cases q : f ρ with
  | ok a ρ' => rw [q] at h; exact fun B' H' e L => Post.weak h e
  | rz c ρ' => rw [q] at h; exact h
  | fail => rw [q] at h; exact h
theorem Post.opt {o : Option α} {G : α → Env → Hp → Hp → Prop} (h : Post X W F σ B (M.opt o ρ) G) : ∃ a, o = some a ∧ ∀ B' H', Ex B B' → Lv X.K F ρ σ B' H' → G a ρ B' H' := by
  cases o with
  | none => exact h.elim
  | some a => exact ⟨a, rfl, h⟩
end
def EV (X : Cx) (W : WX) (e : Expr) (f : M D) : Prop := ∀ (F : Fr) (ρ : Env) (σ : St) (B H : Hp) (Q : VK), Lv X.K F ρ σ B H →
  Post X W F σ B (f ρ) (fun d _ B' H' => ∀ v, Fz X.K B' v d → Q v H') → we X e σ H Q
def ET (X : Cx) (W : WX) (e : Expr) (f : M Bool) : Prop := ∀ (F : Fr) (ρ : Env) (σ : St) (B H : Hp) (Q : Bool → Hp → Prop), Lv X.K F ρ σ B H →
  Post X W F σ B (f ρ) (fun b _ _ H' => Q b H') → wt X e σ H Q
def EA (X : Cx) (W : WX) (es : List Expr) (f : M (List D)) : Prop := ∀ (F : Fr) (ρ : Env) (σ : St) (B H : Hp) (Q : List V → Hp → Prop), Lv X.K F ρ σ B H →
  Post X W F σ B (f ρ) (fun ds _ B' H' => ∀ vs, Fzs X.K B' vs ds → Q vs H') → wa X es σ H Q
def VO (K : PySem.W.Frag) (F : Fr) (ρ : Env) (σ : St) (B H : Hp) (v : V) (d : D) : Ob → Prop
  | .tt => ∃ a, v = .ref a ∧ Ow K B H a d ∧ (F.A a ∨ F.H0 a = none) ∧ ¬ OwS K B H ρ σ a
  | .ff => Fz K B v d
  | .dp m => ∃ S, Tr K B H m v d S ∧ S.Nodup ∧ ∀ a ∈ S, (F.A a ∨ F.H0 a = none) ∧ ¬ OwS K B H ρ σ a
  | .al => ∃ (j : Nat) (a : Addr), F.P[j]? = some (some a) ∧ v = .ref a
def EO (X : Cx) (W : WX) (e : Expr) (f : M (D × Ob)) : Prop := ∀ (F : Fr) (ρ : Env) (σ : St) (B H : Hp) (Q : VK), Lv X.K F ρ σ B H →
  Post X W F σ B (f ρ) (fun p ρ' B' H' => ∀ v, VO X.K F ρ' σ B' H' v p.1 p.2 → Q v H') → we X e σ H Q
def PostS (X : Cx) (W : WX) (F : Fr) (B : Hp) (r : Rs Fl) (N : Ends) : Prop :=
  match r with
  | .ok .nx ρ' => ∀ σ' B' H', Ex B B' → Lv X.K F ρ' σ' B' H' → N.nx σ' H'
  | .ok .bk ρ' => ∀ σ' B' H', Ex B B' → Lv X.K F ρ' σ' B' H' → N.bk σ' H'
  | .ok .ct ρ' => ∀ σ' B' H', Ex B B' → Lv X.K F ρ' σ' B' H' → N.ct σ' H'
  | .ok (.rt d o) ρ' => ∀ v σ' B' H', Ex B B' → Lv X.K F ρ' σ' B' H' → VO X.K F ρ' σ' B' H' v d o → N.rt v H'
  | .rz c ρ' => ∀ σ' B' H', Ex B B' → Lv X.K F ρ' σ' B' H' → W (cv X c) none σ' H'
  | .fail => False
def SV (X : Cx) (W : WX) (st : Stmt) (f : M Fl) : Prop := ∀ (F : Fr) (ρ : Env) (σ : St) (B H : Hp) (N : Ends), Lv X.K F ρ σ B H → PostS X W F B (f ρ) N → ws X st N σ H
def SVs (X : Cx) (W : WX) (sts : List Stmt) (f : M Fl) : Prop := ∀ (F : Fr) (ρ : Env) (σ : St) (B H : Hp) (N : Ends), Lv X.K F ρ σ B H → PostS X W F B (f ρ) N → wss X sts N σ H
theorem PostS.weak {X : Cx} {W : WX} {F : Fr} {B B1 : Hp} {r : Rs Fl} {N : Ends} (h : PostS X W F B r N) (e : Ex B B1) : PostS X W F B1 r N := by
  cases r with
  | ok a ρ' =>
    cases a with
    | nx => exact fun σ' B' H' e' L => h σ' B' H' (e.trans e') L
    | bk => exact fun σ' B' H' e' L => h σ' B' H' (e.trans e') L
    | ct => exact fun σ' B' H' e' L => h σ' B' H' (e.trans e') L
    | rt d o => exact fun v σ' B' H' e' L => h v σ' B' H' (e.trans e') L
  | rz c ρ' => exact fun σ' B' H' e' L => h σ' B' H' (e.trans e') L
  | fail => exact h
theorem PostS.bind {X : Cx} {W : WX} {F : Fr} {B : Hp} {σ : St} {α : Type} {ρ : Env} {f : M α} {g : α → M Fl} {N : Ends} (h : PostS X W F B (M.bind f g ρ) N) : Post X W F σ B (f ρ) (fun a ρ1 B1 _ => PostS X W F B1 (g a ρ1) N) := by
  unfold M.bind at h
  cases q : f ρ with
  | ok a ρ' => rw [q] at h; exact fun B' H' e L => PostS.weak h e
  | rz c ρ' => rw [q] at h; exact fun B' H' e L => h σ B' H' e L
  | fail => rw [q] at h; exact h
def Grow (K : PySem.W.Frag) (B H : Hp) (d : D) (Q : VK) : Prop := (∀ v, Fz K B v d → Q v H) ∧ ∀ p o v, H p = none → Fz K (upd B p o) v d → Q v (upd H p o)
theorem Lv.grow {K : PySem.W.Frag} {F : Fr} {ρ : Env} {σ : St} {B H : Hp} {d : D} {Q : VK} (L : Lv K F ρ σ B H) (h : ∀ B' H', Ex B B' → Lv K F ρ σ B' H' → ∀ v, Fz K B' v d → Q v H') : Grow K B H d Q :=
  ⟨fun v f => h B H (Ex.refl _) L v f, fun p o v n f => h _ _ (Ex.new (L.ex.nn n)) (L.alloc n) v f⟩
section
variable {X : Cx} {W : WX} {e a b c : Expr} {pos : Pos}
def mVar (i : Nat) : M D := fun ρ => match ρ[i]? with
  | some (.fz d) => .ok d ρ
  | some (.ow d) => .ok d (ρ.set i (.fz d))
  | some (.dp _ d) => .ok d (ρ.set i (.fz d))
  | _ => .fail
theorem ev_var (i : Nat) {x : Str} (hN : X.N[i]? = some x := by rfl) (hv : Vis X.env.scope x := by first | exact Or.inl rfl | exact Or.inr (Or.inl rfl) | exact Or.inr (Or.inr rfl)) (hd : (x == ("__debug__" : Str)) = false := by decide)
    (hcd : (x == ("__classdict__" : Str)) = false := by decide) : EV X W (.Name x pos) (mVar i) := by
  intro F ρ σ B H Q L P
  refine PE.we (pe_var hN hv hd hcd) ?_
  unfold mVar at P
  split at P
  · rename_i d h
    obtain ⟨v, e1, f⟩ := L.fz i d h
    exact ⟨v, e1, P B H (Ex.refl _) L v f⟩
  · rename_i d h
    obtain ⟨B', v, e1, e2, f, L'⟩ := L.frz h
    exact ⟨v, e2, P B' H e1 L' v f⟩
  · rename_i m d h
    obtain ⟨B', v, e1, e2, f, L'⟩ := L.frz0 h rfl
    exact ⟨v, e2, P B' H e1 L' v f⟩
  · exact P.elim
theorem ev_c {d : D} {v : V} (h : PE X e (tC v)) (hf : ∀ B, Fz X.K B v d) : EV X W e (M.pure d) := by
  intro F ρ σ B H Q L P
  exact PE.we h (P B H (Ex.refl _) L v (hf B))
theorem ev_int {i : Int} {j : Nat} : EV X W (.Constant (.int i) j pos) (M.pure (.int i)) := ev_c pe_int fun _ => .int i
theorem ev_bl {k : Bool} {j : Nat} : EV X W (.Constant (.bool k) j pos) (M.pure (.bl k)) := ev_c pe_bl fun _ => .bl k
def mBin (g : D → D → Option D) (f1 f2 : M D) : M D := M.bind f1 fun x => M.bind f2 fun y => M.opt (g x y)
def OpD (K : PySem.W.Frag) (r : R2) (g : D → D → Option D) : Prop := ∀ (x y : V) (dx dy d : D) (B H : Hp) (Q : VK), Ex B H → Fz K B x dx → Fz K B y dy → g dx dy = some d → Grow K B H d Q → r x y H Q
theorem ev_two {r : R2} {g : D → D → Option D} {f1 f2 : M D} (h : PE X e (tOp r (we X a) (we X b))) (hr : OpD X.K r g) (ha : EV X W a f1) (hb : EV X W b f2) : EV X W e (mBin g f1 f2) := by
  intro F ρ σ B H Q L P
  refine PE.we h ?_
  refine ha F ρ σ B H _ L ((Post.bind P).imp fun dx ρ1 B1 H1 e1 L1 P1 x fx => ?_)
  refine hb F ρ1 σ B1 H1 _ L1 ((Post.bind P1).imp fun dy ρ2 B2 H2 e2 L2 P2 y fy => ?_)
  obtain ⟨d, hd, k⟩ := P2.opt
  exact hr x y dx dy d B2 H2 Q L2.ex (fx.mono e2) fy hd (L2.grow k)
theorem ev_op {op : Operator} {r : R2} {g : D → D → Option D} {f1 f2 : M D} (ho : OpR X (binaryOp op) r) (hr : OpD X.K r g) (ha : EV X W a f1) (hb : EV X W b f2) : EV X W (.BinOp a op b pos) (mBin g f1 f2) :=
  ev_two (pe_op ho pe_we pe_we) hr ha hb
theorem ev_ix {r : R2} {g : D → D → Option D} {f1 f2 : M D} (ho : IxR X r) (hr : OpD X.K r g) (ha : EV X W a f1) (hb : EV X W b f2) (hs : PlainIx b := by exact fun _ _ => rfl) : EV X W (.Subscript a b pos) (mBin g f1 f2) :=
  ev_two (pe_ix ho pe_we pe_we hs) hr ha hb
def mUn (g : D → Option D) (f1 : M D) : M D := M.bind f1 fun x => M.opt (g x)
def UnD (K : PySem.W.Frag) (r : V → Hp → VK → Prop) (g : D → Option D) : Prop := ∀ (x : V) (dx d : D) (B H : Hp) (Q : VK), Ex B H → Fz K B x dx → g dx = some d → Grow K B H d Q → r x H Q
theorem ev_un {op : UnaryOp} {r : V → Hp → VK → Prop} {g : D → Option D} {f1 : M D} (ho : UnR X (unaryOp op) r) (hr : UnD X.K r g) (ha : EV X W a f1) : EV X W (.UnaryOp op a pos) (mUn g f1) := by
  intro F ρ σ B H Q L P
  refine PE.we (pe_un ho pe_we) ?_
  refine ha F ρ σ B H _ L ((Post.bind P).imp fun dx ρ1 B1 H1 e1 L1 P1 x fx => ?_)
  obtain ⟨d, hd, k⟩ := P1.opt
  exact hr x dx d B1 H1 Q L1.ex fx hd (L1.grow k)
def mNil : M (List D) := M.pure []
def mCons (f : M D) (g : M (List D)) : M (List D) := M.bind f fun x => M.bind g fun xs => M.pure (x :: xs)
theorem ea_nil : EA X W [] mNil := fun F ρ σ B H Q L P => PA.wa pa_nil (P B H (Ex.refl _) L [] .nil)
def unStar : Expr → Bool
  | .Starred _ _ => false
  | _ => true
theorem star_un {e : Expr} {es : List Expr} {env : PySem.Env} (h : unStar e = true) : starEach (e :: es) env = (false, eval e env) :: starEach es env := by
  cases e <;> first | rfl | cases h
theorem ea_cons {es : List Expr} {f : M D} {g : M (List D)} (ha : EV X W e f) (hr : EA X W es g) (hs : starEach (e :: es) X.env = (false, eval e X.env) :: starEach es X.env := by exact star_un rfl) : EA X W (e :: es) (mCons f g) := by
  intro F ρ σ B H Q L P
  refine PA.wa (pa_cons pe_we pa_wa hs) ?_
  refine ha F ρ σ B H _ L ((Post.bind P).imp fun dx ρ1 B1 H1 e1 L1 P1 x fx => ?_)
  refine hr F ρ1 σ B1 H1 _ L1 ((Post.bind P1).imp fun ds ρ2 B2 H2 e2 L2 P2 xs fs => ?_)
  exact P2 B2 H2 (Ex.refl _) L2 _ (.cons (fx.mono e2) fs)
def mCall (g : List D → Option D) (f : M (List D)) : M D := M.bind f fun xs => M.opt (g xs)
def CallD (K : PySem.W.Frag) (r : List V → Hp → VK → Prop) (g : List D → Option D) : Prop := ∀ (xs : List V) (ds : List D) (d : D) (B H : Hp) (Q : VK), Ex B H → Fzs K B xs ds → g ds = some d → Grow K B H d Q → r xs H Q
theorem ev_callG {es : List Expr} {r : List V → Hp → VK → Prop} {g : List D → Option D} {f : M (List D)} (h : PE X e (tCB r (wa X es))) (hr : CallD X.K r g) (ha : EA X W es f) : EV X W e (mCall g f) := by
  intro F ρ σ B H Q L P
  refine PE.we h ?_
  refine ha F ρ σ B H _ L ((Post.bind P).imp fun ds ρ1 B1 H1 e1 L1 P1 xs fs => ?_)
  obtain ⟨d, hd, k⟩ := P1.opt
  exact hr xs ds d B1 H1 Q L1.ex fs hd (L1.grow k)
theorem ev_callB {x : Str} {id : String} {es : List Expr} {p : Pos} {r : List V → Hp → VK → Prop} {g : List D → Option D} {f : M (List D)} (hc : CallR X (.builtin id) r) (hr : CallD X.K r g) (hg : Gl X x) (hm : X.mg x = none) (hv : bootBuiltins x = some (.builtin id))
    (ha : EA X W (e :: es) f) (hn : x ≠ "__name__" := by decide) (hdb : (x == ("__debug__" : Str)) = false := by decide)
    (he : starEach (e :: es) X.env = (false, eval e X.env) :: starEach es X.env := by exact star_un rfl) (hpl : (backTo pos (starEach es X.env)).any (·.1) = false := by rfl) : EV X W (.Call (.Name x p) (e :: es) [] pos) (mCall g f) :=
  ev_callG (pe_callB hc hg hm hv pa_wa hn hdb he hpl) hr ha
def mTup (f : M (List D)) : M D := M.bind f fun xs => M.opt (if xs.length ≤ 10000 then some (.tup xs) else none)
theorem len_line {n : Nat} (h : n ≤ 100000) : n ≤ sizeLine := Nat.le_trans h (by decide)
theorem ev_tup {es : List Expr} {k : Nat} {f : M (List D)} (ha : EA X W es f) : EV X W (.Tuple es k pos) (mTup f) := by
  intro F ρ σ B H Q L P
  refine PE.we (pe_tup pa_wa) ?_
  refine ha F ρ σ B H _ L ((Post.bind P).imp fun ds ρ1 B1 H1 e1 L1 P1 xs fs => ?_)
  obtain ⟨d, hd, k⟩ := P1.opt
  split at hd
  · injection hd with hd; subst hd
    refine ⟨len_line (by rw [fs.len]; omega), fun p hp => (L1.grow k).2 p _ _ hp (.tup (.inl (.inl upd_same)) (fs.mono (Ex.new (L1.ex.nn hp))))⟩
  · cases hd
def Ob.ok : Ob → Bool
  | .al => false
  | _ => true
def mFz (f : M (D × Ob)) : M D := M.bind f fun p => M.opt (if p.2.ok = true then some p.1 else none)
theorem Lv.vfz {K : PySem.W.Frag} {F : Fr} {ρ : Env} {σ : St} {B H : Hp} {v : V} {d : D} {o : Ob} (L : Lv K F ρ σ B H) (h : VO K F ρ σ B H v d o) (ok : o.ok = true) : ∃ B', Ex B B' ∧ Lv K F ρ σ B' H ∧ Fz K B' v d := by
  cases o with
  | ff => exact ⟨B, Ex.refl _, L, h⟩
  | tt =>
    obtain ⟨a, rfl, w, n, no⟩ := h
    obtain ⟨o, h1, h2⟩ := w.fz
    exact ⟨_, Ex.new w.hid, L.freeze h1 w.hid n no, h2⟩
  | dp m =>
    obtain ⟨S, t, nd, g⟩ := h
    exact ⟨_, frzB_ex L.ex, L.freezeS (fun a m => (g a m).1) (fun a m => (g a m).2), t.fz L.ex fun a m => m⟩
  | al => cases ok
theorem ev_of {f : M (D × Ob)} (h : EO X W e f) : EV X W e (mFz f) := by
  intro F ρ σ B H Q L P
  refine h F ρ σ B H Q L ((Post.bind P).imp fun p ρ1 B1 H1 e1 L1 P1 v w => ?_)
  obtain ⟨d, hd, k⟩ := P1.opt
  split at hd
  · rename_i ok
    injection hd with hd; subst hd
    obtain ⟨B2, e2, L2, f2⟩ := L1.vfz w ok
    exact k B2 H1 e2 L2 v f2
  · cases hd
def mOf (f : M D) : M (D × Ob) := M.bind f fun d => M.pure (d, .ff)
theorem eo_of {f : M D} (h : EV X W e f) : EO X W e (mOf f) := by
  intro F ρ σ B H Q L P
  exact h F ρ σ B H Q L ((Post.bind P).imp fun d ρ1 B1 H1 e1 L1 P1 v w => P1 B1 H1 (Ex.refl _) L1 v w)
def mMove (i : Nat) : M (D × Ob) := fun ρ => match ρ[i]? with
  | some (.fz d) => .ok (d, .ff) ρ
  | some (.ow d) => .ok (d, .tt) (ρ.set i .un)
  | some (.dp m d) => .ok (d, .dp m) (ρ.set i .un)
  | _ => .fail
def mLst (f : M (List D)) : M (D × Ob) := M.bind f fun xs => M.opt (if xs.length ≤ 10000 then some (.lst xs, .tt) else none)
theorem Lv.newL {K : PySem.W.Frag} {F : Fr} {ρ : Env} {σ : St} {B H : Hp} {p : Addr} {xs : List V} {ds : List D} (L : Lv K F ρ σ B H) (hp : H p = none) (fs : Fzs K B xs ds) : Lv K F ρ σ B (upd H p (.lst xs)) ∧ VO K F ρ σ B (upd H p (.lst xs)) (.ref p) (.lst ds) .tt :=
  ⟨L.allocO hp, p, rfl, ⟨L.ex.nn hp, xs, upd_same, fs⟩, .inr (L.free hp), fun h => (L.hidOw (h.chg L fun z => (L.hidOw z).2.ne hp)).2.ne hp⟩
theorem eo_lst {es : List Expr} {f : M (List D)} (ha : EA X W es f) : EO X W (.List es pos) (mLst f) := by
  intro F ρ σ B H Q L P
  refine PE.we (pe_lst pa_wa) ?_
  refine ha F ρ σ B H _ L ((Post.bind P).imp fun ds ρ1 B1 H1 e1 L1 P1 xs fs => ?_)
  obtain ⟨d, hd, k⟩ := P1.opt
  split at hd
  · injection hd with hd; subst hd
    refine ⟨len_line (by rw [fs.len]; omega), fun p hp => ?_⟩
    obtain ⟨L2, v2⟩ := L1.newL hp fs
    exact k B1 _ (Ex.refl _) L2 _ v2
  · cases hd
theorem eo_move (i : Nat) {x : Str} (hN : X.N[i]? = some x := by rfl) (hv : Vis X.env.scope x := by first | exact Or.inl rfl | exact Or.inr (Or.inl rfl) | exact Or.inr (Or.inr rfl)) (hd : (x == ("__debug__" : Str)) = false := by decide)
    (hcd : (x == ("__classdict__" : Str)) = false := by decide) : EO X W (.Name x pos) (mMove i) := by
  intro F ρ σ B H Q L P
  refine PE.we (pe_var hN hv hd hcd) ?_
  unfold mMove at P
  split at P
  · rename_i d h
    obtain ⟨v, e1, f⟩ := L.fz i d h
    exact ⟨v, e1, P B H (Ex.refl _) L v f⟩
  · rename_i d h
    obtain ⟨v, S, e1, f, g, no, L1⟩ := L.take h rfl
    obtain ⟨a, rfl, w, rfl⟩ := f
    exact ⟨_, e1, P B H (Ex.refl _) L1 _ ⟨a, rfl, w, g a (by simp), no a (by simp)⟩⟩
  · rename_i m d h
    obtain ⟨v, S, e1, f, g, no, L1⟩ := L.take h rfl
    exact ⟨_, e1, P B H (Ex.refl _) L1 _ ⟨S, f.1, f.2, fun a m => ⟨g a m, no a m⟩⟩⟩
  · exact P.elim
end
end Dt
namespace Dt
open PySem PySem.Spec PyProof.Rows L2
section
variable {X : Cx} {W : WX} {e a b c : Expr} {pos : Pos}
def asBl : D → Option Bool
  | .bl k => some k
  | _ => none
theorem Fz.bl_inv {K : PySem.W.Frag} {B : Hp} {v : V} {d : D} {k : Bool} (h : Fz K B v d) (e : asBl d = some k) : v = .bl k := by
  cases h with
  | bl b => injection e with e; rw [e]
  | _ => cases e
def mTest (f : M D) : M Bool := M.bind f fun d => M.opt (asBl d)
theorem et_cmp {op : CmpOp} {r : R2} {g : D → D → Option D} {f1 f2 : M D} (ho : OpR X (compareOp op) r) (hr : OpD X.K r g) (ha : EV X W a f1) (hb : EV X W b f2) (hm : behindInMarks op b = false := by first | exact nomark _ | rfl) : ET X W (.Compare a [op] [b] pos) (mTest (mBin g f1 f2)) := by
  intro F ρ σ B H Q L P
  refine PT.wt (pt_cmpR ho pe_we pe_we hm) ?_
  have P0 := Post.bind P
  refine ha F ρ σ B H _ L ((Post.bind P0).imp fun dx ρ1 B1 H1 e1 L1 P1 x fx => ?_)
  refine hb F ρ1 σ B1 H1 _ L1 ((Post.bind P1).imp fun dy ρ2 B2 H2 e2 L2 P2 y fy => ?_)
  obtain ⟨d, hd, k⟩ := P2.opt
  refine hr x y dx dy d B2 H2 _ L2.ex (fx.mono e2) fy hd (L2.grow fun B' H' e' L' v fv => ?_)
  obtain ⟨kk, hk, q⟩ := (k B' H' e' L').opt
  exact ⟨kk, fv.bl_inv hk, q B' H' (Ex.refl _) L'⟩
structure Ww (X : Cx) (e : Expr) (σ : St) (H : Hp) (Q : Bool → Hp → Prop) : Prop where
  run : ∀ (whole : Sem Value) (pins : List (Addr × Obj)) (s : Shared), Inv X pins σ H s → wpAny (model X.prog X.w) X.A (isTrue e X.env whole) (TP X pins σ Q) X.xe s
def ww (X : Cx) (e : Expr) : TT := Ww X e
theorem pw_ww : PW X e (ww X e) := ⟨fun whole pins s _ _ _ I h => Ww.run h whole pins s I⟩
theorem PW.ww {t : TT} {Q : Bool → Hp → Prop} {σ : St} {H : Hp} (h : PW X e t) (q : t σ H Q) : ww X e σ H Q := Ww.mk fun whole pins s I => h.run whole pins s σ H Q I q
def EW (X : Cx) (W : WX) (e : Expr) (f : M Bool) : Prop := ∀ (F : Fr) (ρ : Env) (σ : St) (B H : Hp) (Q : Bool → Hp → Prop), Lv X.K F ρ σ B H →
  Post X W F σ B (f ρ) (fun b _ _ H' => Q b H') → ww X e σ H Q
theorem et_w {f : M Bool} (h : EW X W e f) : ET X W e f := fun F ρ σ B H Q L P => PT.wt (PW.pt pw_ww) (h F ρ σ B H Q L P)
def mAnd (f g : M Bool) : M Bool := M.bind f fun k => match k with
  | true => g
  | false => M.pure false
def mOr (f g : M Bool) : M Bool := M.bind f fun k => match k with
  | true => M.pure true
  | false => g
def mNot (f : M Bool) : M Bool := M.bind f fun k => M.pure (!k)
theorem ew_and1 {f : M Bool} (ha : ET X W a f) : EW X W (.BoolOp .And [a] pos) f := fun F ρ σ B H Q L P => PW.ww (pw_and1 pt_wt) (ha F ρ σ B H Q L P)
theorem ew_and {rest : List Expr} {f g : M Bool} (ha : ET X W a f) (hb : EW X W (.BoolOp .And (b :: rest) pos) g) : EW X W (.BoolOp .And (a :: b :: rest) pos) (mAnd f g) := by
  intro F ρ σ B H Q L P
  refine PW.ww (pw_and pt_wt pw_ww) ?_
  refine ha F ρ σ B H _ L ((Post.bind P).imp fun k ρ1 B1 H1 e1 L1 P1 => ?_)
  cases k with
  | true => rw [if_pos rfl]; exact hb F ρ1 σ B1 H1 Q L1 P1
  | false => rw [if_neg Bool.false_ne_true]; exact P1 B1 H1 (Ex.refl _) L1
def mAndV (f g : M D) : M D := M.bind f fun d => match d with
  | .bl true => g
  | .bl false => M.pure (.bl false)
  | _ => M.fail
def mOrV (f g : M D) : M D := M.bind f fun d => match d with
  | .bl true => M.pure (.bl true)
  | .bl false => g
  | _ => M.fail
def mNotV (f : M D) : M D := M.bind f fun d => match d with
  | .bl k => M.pure (.bl (!k))
  | _ => M.fail
def mIf {α : Type} (t : M Bool) (f g : M α) : M α := M.bind t fun k => match k with
  | true => f
  | false => g
end
section
variable {X : Cx} {W : WX} {pos : Pos}
structure Wg (X : Cx) (tg : Expr) (v : V) (σ : St) (H : Hp) (Q : St → Hp → Prop) : Prop where
  run : ∀ (pins : List (Addr × Obj)) (s : Shared) (u : Value), Inv X pins σ H s → RelV v u → wpAny (model X.prog X.w) X.A (assign tg X.env u) (fun _ s' => ∃ σ' H', Inv X pins σ' H' s' ∧ Q σ' H') X.xe s
def wg (X : Cx) (tg : Expr) : TG := Wg X tg
theorem pg_wg {tg : Expr} : PG X tg (wg X tg) := ⟨fun pins s _ _ _ u _ I r h => Wg.run h pins s u I r⟩
theorem PG.wg {tg : Expr} {t : TG} {v : V} {σ : St} {H : Hp} {Q : St → Hp → Prop} (h : PG X tg t) (q : t v σ H Q) : wg X tg v σ H Q := Wg.mk fun pins s u I r => h.run pins s σ H v u Q I r q
def Onl (is : List Nat) (σ σ' : St) : Prop := σ'.length = σ.length ∧ ∀ j, j ∉ is → σ'[j]? = σ[j]?
theorem Onl.set (σ : St) (i : Nat) (v : Option V) : Onl [i] σ (σ.set i v) := ⟨List.length_set, fun j h => List.getElem?_set_ne (fun z => h (by simp [z]))⟩
def PostG (X : Cx) (F : Fr) (B : Hp) (σ : St) (is : List Nat) (r : Option Env) (Q : St → Hp → Prop) : Prop :=
  match r with
  | some ρ' => ∀ σ' B' H', Onl is σ σ' → Ex B B' → Lv X.K F ρ' σ' B' H' → Q σ' H'
  | none => False
def GV (X : Cx) (tg : Expr) (is : List Nat) (g : D → Env → Option Env) : Prop := ∀ (F : Fr) (ρ : Env) (σ : St) (B H : Hp) (v : V) (d : D) (Q : St → Hp → Prop), Lv X.K F ρ σ B H → Fz X.K B v d → PostG X F B σ is (g d ρ) Q → wg X tg v σ H Q
def gN (i : Nat) (d : D) (ρ : Env) : Option Env := some (ρ.set i (.fz d))
theorem gv_name {i : Nat} {x : Str} (hN : X.N.Nodup) (hi : X.N[i]? = some x := by rfl) (hx : Loc X.env.scope x := by first | exact Or.inl rfl | exact Or.inr rfl) (hf : X.fn x = true ∨ X.env.scope.names.lookup x = some .local := by first | exact .inl rfl | exact .inr rfl | assumption) : GV X (.Name x pos) [i] (gN i) := by
  intro F ρ σ B H v d Q L fv P
  refine PG.wg (pg_name hN hi hx hf) ?_
  exact P _ B H (Onl.set σ i _) (Ex.refl _) (L.store rfl fun d' z => by injection z with z; subst z; exact fv)
def gsN (ds : List D) (ρ : Env) : Option Env := match ds with
  | [] => some ρ
  | _ => none
def gsC (g : D → Env → Option Env) (gs : List D → Env → Option Env) (ds : List D) (ρ : Env) : Option Env := match ds with
  | d :: r => (g d ρ).bind (gs r)
  | [] => none
def gT (n : Nat) (gs : List D → Env → Option Env) (d : D) (ρ : Env) : Option Env := match d with
  | .tup ds => if ds.length = n then gs ds ρ else none
  | _ => none
end
section
variable {X : Cx} {W : WX} {e : Expr} {pos : Pos} {st : Stmt} {rest : List Stmt}
def mSeq (f g : M Fl) : M Fl := M.bind f fun fl => match fl with
  | .nx => g
  | .bk => M.pure .bk
  | .ct => M.pure .ct
  | .rt d o => M.pure (.rt d o)
def mNx : M Fl := M.pure .nx
theorem svs_nil : SVs X W [] mNx := fun F ρ σ B H N L P => PSs.wss pss_nil (P σ B H (Ex.refl _) L)
theorem svs_cons {f g : M Fl} (h1 : SV X W st f) (h2 : SVs X W rest g) : SVs X W (st :: rest) (mSeq f g) := by
  intro F ρ σ B H N L P
  refine PSs.wss (pss_cons ps_ws pss_wss) ?_
  refine h1 F ρ σ B H _ L ?_
  have P' : PostS X W F B (M.bind f _ ρ) N := P
  unfold M.bind at P'
  cases q : f ρ with
  | ok fl ρ1 =>
    rw [q] at P'
    cases fl with
    | nx => exact fun σ' B' H' e' L' => h2 F ρ1 σ' B' H' N L' (PostS.weak P' e')
    | bk => exact P'
    | ct => exact P'
    | rt d o => exact P'
  | rz c ρ1 => rw [q] at P'; exact P'
  | fail => rw [q] at P'; exact P'
theorem svs_one {f : M Fl} (h1 : SV X W st f) : SVs X W [st] f := fun F ρ σ B H N L P => PSs.wss (pss_one ps_ws) (h1 F ρ σ B H N L P)
def Slot.of : D × Ob → Option Slot
  | (d, .ff) => some (.fz d)
  | (d, .tt) => some (.ow d)
  | (d, .dp m) => some (.dp m d)
  | (_, .al) => none
def mPut (i : Nat) (p : D × Ob) : M Fl := fun ρ => match Slot.of p with
  | some s => .ok .nx (ρ.set i s)
  | none => .fail
def mSet (i : Nat) (f : M (D × Ob)) : M Fl := M.bind f (mPut i)
theorem Lv.put {K : PySem.W.Frag} {F : Fr} {ρ : Env} {σ : St} {B H : Hp} {v : V} {p : D × Ob} {i : Nat} {s : Slot} (L : Lv K F ρ σ B H) (w : VO K F ρ σ B H v p.1 p.2) (hs : Slot.of p = some s) : Lv K F (ρ.set i s) (σ.set i (some v)) B H := by
  obtain ⟨d, o⟩ := p
  have own : ∀ {S : List Addr}, Ft K B H v s S → (∀ a ∈ S, (F.A a ∨ F.H0 a = none) ∧ ¬ OwS K B H ρ σ a) → (∀ d, s ≠ .io d) → Lv K F (ρ.set i s) (σ.set i (some v)) B H := by
    intro S f g nio
    have L1 : Lv K F (ρ.set i .un) (σ.set i (some v)) B H := L.store rfl fun d' z => nomatch z
    by_cases hi : i < ρ.length
    · have L2 := L1.own (i := i) (t := s) (v := v) (List.getElem?_set_self (by rw [← L.len]; exact hi)) f (fun a m => (g a m).1) (fun a m h => by
        rw [List.set_set] at h
        exact (g a m).2 h.store) (fun d z => absurd z (nio d))
      rw [List.set_set] at L2; exact L2
    · have e1 : ρ.set i s = ρ := List.set_eq_of_length_le (by omega)
      have e2 : σ.set i (some v) = σ := List.set_eq_of_length_le (by rw [← L.len]; omega)
      rw [e1, e2]; exact L
  cases o with
  | ff => injection hs with hs; subst hs; exact L.store rfl fun d' z => by injection z with z; subst z; exact w
  | tt =>
    injection hs with hs; subst hs
    obtain ⟨a, rfl, w, g, no⟩ := w
    exact own ⟨a, rfl, w, rfl⟩ (fun b hb => by rw [List.mem_singleton.mp hb]; exact ⟨g, no⟩) (fun d z => nomatch z)
  | dp m =>
    injection hs with hs; subst hs
    obtain ⟨S, t, nd, g⟩ := w
    exact own ⟨t, nd⟩ g (fun d z => nomatch z)
  | al => cases hs
theorem PostS.put {X : Cx} {W : WX} {F : Fr} {B : Hp} {N : Ends} {ρ : Env} {σ : St} {H : Hp} {v : V} {p : D × Ob} {i : Nat} (P : PostS X W F B (mPut i p ρ) N) (L : Lv X.K F ρ σ B H) (w : VO X.K F ρ σ B H v p.1 p.2) : N.nx (σ.set i (some v)) H := by
  unfold mPut at P
  cases q : Slot.of p with
  | none => simp only [q] at P; exact P.elim
  | some s => simp only [q] at P; exact P _ B H (Ex.refl _) (L.put w q)
theorem sv_set {i : Nat} {x : Str} {pos' : Pos} {f : M (D × Ob)} (he : EO X W e f) (hN : X.N.Nodup) (hi : X.N[i]? = some x := by rfl) (hx : Loc X.env.scope x := by first | exact Or.inl rfl | exact Or.inr rfl)
    (hs : swapsWith e (some (.Name x pos')) pos.line X.env = pure false := by rfl) (hf : X.fn x = true ∨ X.env.scope.names.lookup x = some .local := by first | exact .inl rfl | exact .inr rfl | assumption) : SV X W (.Assign [.Name x pos'] e pos) (mSet i f) := by
  intro F ρ σ B H N L P
  refine PS.ws (ps_set hN hi hx pe_we hs hf) ?_
  refine he F ρ σ B H _ L ((PostS.bind P).imp fun p ρ1 B1 H1 e1 L1 P1 v w => ?_)
  exact P1.put L1 w
def mAsg (g : D → Env → Option Env) (f : M D) : M Fl := M.bind f fun d ρ => match g d ρ with
  | some ρ' => .ok .nx ρ'
  | none => .fail
def mPar (i j : Nat) (f : M (List D)) : M Fl := M.bind f fun ds ρ => match ds with
  | [x, y] => .ok .nx ((ρ.set i (.fz x)).set j (.fz y))
  | _ => .fail
theorem sv_par {i j : Nat} {x y : Str} {a b : Expr} {px py pt : Pos} {kt k2 : Nat} {pt2 : Pos} {f : M (List D)} (hc : X.calm = true) (hN : X.N.Nodup) (ha : EA X W [a, b] f) (hi : X.N[i]? = some x := by rfl) (hj : X.N[j]? = some y := by rfl) (hij : i ≠ j := by decide)
    (hx : X.env.scope.names.lookup x = some .local := by rfl) (hy : X.env.scope.names.lookup y = some .local := by rfl)
    (hw : swappedStores [.Tuple [.Name x px, .Name y py] kt pt] (.Tuple [a, b] k2 pt2) X.env = pure (some [x, y]) := by rfl)
    (hs : swapsWithSole [.Tuple [.Name x px, .Name y py] kt pt] (.Tuple [a, b] k2 pt2) pos.line X.env = pure false := by rfl) :
    SV X W (.Assign [.Tuple [.Name x px, .Name y py] kt pt] (.Tuple [a, b] k2 pt2) pos) (mPar i j f) := by
  intro F ρ σ B H N L P
  refine PS.ws (ps_par hc hN hi hj hij hx hy pa_wa hw hs) ?_
  refine ha F ρ σ B H _ L ((PostS.bind P).imp fun ds ρ1 B1 H1 e1 L1 P1 vs fs => ?_)
  split at P1
  · cases fs with
    | cons f1 fs =>
      cases fs with
      | cons f2 fs =>
        cases fs
        refine ⟨_, _, rfl, P1 _ B1 H1 (Ex.refl _) ?_⟩
        exact (L1.store (i := i) rfl fun d' z => by injection z with z; subst z; exact f1).store (i := j) rfl fun d' z => by injection z with z; subst z; exact f2
  · exact P1.elim
def mRet (f : M (D × Ob)) : M Fl := M.bind f fun p => M.pure (.rt p.1 p.2)
theorem sv_ret {f : M (D × Ob)} (he : EO X W e f) : SV X W (.Return (some e) pos) (mRet f) := by
  intro F ρ σ B H N L P
  refine PS.ws (ps_ret pe_we) ?_
  exact he F ρ σ B H _ L ((PostS.bind P).imp fun p ρ1 B1 H1 e1 L1 P1 v w => P1 v σ B1 H1 (Ex.refl _) L1 w)
def mDrop (f : M D) : M Fl := M.bind f fun _ => mNx
theorem sv_if {c : Expr} {a b : List Stmt} {t : M Bool} {f g : M Fl} (hc : ET X W c t) (ha : SVs X W a f) (hb : SVs X W b g) : SV X W (.If c a b pos) (mIf t f g) := by
  intro F ρ σ B H N L P
  refine PS.ws (ps_if pt_wt pss_wss pss_wss) ?_
  refine hc F ρ σ B H _ L ((PostS.bind P).imp fun k ρ1 B1 H1 e1 L1 P1 => ?_)
  cases k with
  | true => rw [if_pos rfl]; exact ha F ρ1 σ B1 H1 N L1 P1
  | false => rw [if_neg Bool.false_ne_true]; exact hb F ρ1 σ B1 H1 N L1 P1
def mWhN (t : M Bool) (b : M Fl) : Nat → M Fl
  | 0 => M.fail
  | n + 1 => M.bind t fun k => match k with
    | false => mNx
    | true => M.bind b fun fl => match fl with
      | .nx => mWhN t b n
      | .ct => mWhN t b n
      | .bk => mNx
      | .rt d o => M.pure (.rt d o)
open Classical in
noncomputable def mWh (t : M Bool) (b : M Fl) : M Fl := fun ρ => if h : ∃ n, mWhN t b n ρ ≠ .fail then mWhN t b (choose h) ρ else .fail
theorem mWhN_up (t : M Bool) (b : M Fl) : ∀ (n : Nat) (ρ : Env), mWhN t b n ρ ≠ .fail → ∀ m, n ≤ m → mWhN t b m ρ = mWhN t b n ρ
  | 0, ρ, h, _, _ => absurd rfl h
  | n + 1, ρ, h, 0, hm => by omega
  | n + 1, ρ, h, m + 1, hm => by
    unfold mWhN M.bind at h ⊢
    cases q : t ρ with
    | ok k ρ1 =>
      simp only [q] at h ⊢
      cases k with
      | false => rfl
      | true =>
        simp only at h ⊢
        cases q2 : b ρ1 with
        | ok fl ρ2 =>
          simp only [q2] at h ⊢
          cases fl with
          | nx => exact mWhN_up t b n ρ2 h m (by omega)
          | ct => exact mWhN_up t b n ρ2 h m (by omega)
          | bk => rfl
          | rt d o => rfl
        | rz c ρ2 => rfl
        | fail => rfl
    | rz c ρ1 => rfl
    | fail => rfl
theorem mWh_eq {t : M Bool} {b : M Fl} {n : Nat} {ρ : Env} (h : mWhN t b n ρ ≠ .fail) : mWh t b ρ = mWhN t b n ρ := by
  have hx : ∃ n, mWhN t b n ρ ≠ .fail := ⟨n, h⟩
  unfold mWh
  rw [dif_pos hx]
  have h2 := Classical.choose_spec hx
  by_cases q : n ≤ Classical.choose hx
  · exact mWhN_up t b n ρ h _ q
  · exact (mWhN_up t b _ ρ h2 n (by omega)).symm
theorem sv_while {c : Expr} {body : List Stmt} {t : M Bool} {b : M Fl} (hp : PassesOwn (model X.prog X.w) X.A X.env X.xe) (hc : ET X W c t) (hb : SVs X W body b) : SV X W (.While c body [] pos) (mWh t b) := by
  intro F ρ σ B H N L P
  refine PS.ws (ps_while hp pt_wt pss_wss) ?_
  unfold mWh at P
  split at P
  · rename_i hx
    refine ⟨fun m σ' H' => ∃ ρ' B', Lv X.K F ρ' σ' B' H' ∧ PostS X W F B' (mWhN t b m ρ') N, ⟨_, ρ, B, L, P⟩, ?_⟩
    rintro m σ1 H1 ⟨ρ1, B1, L1, P1⟩
    cases m with
    | zero => exact P1.elim
    | succ n =>
      unfold mWhN at P1
      refine hc F ρ1 σ1 B1 H1 _ L1 ((PostS.bind P1).imp fun k ρ2 B2 H2 e2 L2 P2 => ?_)
      cases k with
      | false => rw [if_neg Bool.false_ne_true]; exact P2 σ1 B2 H2 (Ex.refl _) L2
      | true =>
        rw [if_pos rfl]
        refine ⟨fun σ' H' => ∃ ρ' B', Lv X.K F ρ' σ' B' H' ∧ PostS X W F B' (mWhN t b n ρ') N, fun σ' H' q => ⟨n, Nat.lt_succ_self n, q⟩, ?_⟩
        refine hb F ρ2 σ1 B2 H2 _ L2 ?_
        have P3 : PostS X W F B2 (M.bind b _ ρ2) N := P2
        unfold M.bind at P3
        cases q : b ρ2 with
        | ok fl ρ3 =>
          rw [q] at P3
          cases fl with
          | nx => exact fun σ' B' H' e' L' => ⟨ρ3, B', L', PostS.weak P3 e'⟩
          | ct => exact fun σ' B' H' e' L' => ⟨ρ3, B', L', PostS.weak P3 e'⟩
          | bk => exact P3
          | rt d o => exact P3
        | rz c ρ3 => rw [q] at P3; exact P3
        | fail => rw [q] at P3; exact P3
  · exact P.elim
end
section
variable {X : Cx} {W : WX} {tg e : Expr} {pos : Pos}
structure Wi (X : Cx) (tg iter : Expr) (σ : St) (H : Hp) (R : It → Hp → Prop) : Prop where
  run : ∀ (pins : List (Addr × Obj)) (s : Shared), Inv X pins σ H s → wpAny (model X.prog X.w) X.A (eval iter X.env) (fun v s1 => wpAny (model X.prog X.w) X.A (pyIter v) (PIE X pins σ tg R) X.xe s1) X.xe s
def wi (X : Cx) (tg iter : Expr) : TI := Wi X tg iter
theorem pi_wi : PI X tg e (wi X tg e) := ⟨fun pins s _ _ _ I h => Wi.run h pins s I⟩
theorem PI.wi {t : TI} {σ : St} {H : Hp} {R : It → Hp → Prop} (h : PI X tg e t) (q : t σ H R) : wi X tg e σ H R := Wi.mk fun pins s I => h.run pins s σ H R I q
structure ItOk (K : PySem.W.Frag) (J : It) (B : Hp) (ds : List D) : Prop where
  go : ∀ B' H' i, Ex B B' → Ex B' H' → i < ds.length → J.go i H'
  stop : ∀ B' H' i, Ex B B' → Ex B' H' → ds.length ≤ i → J.stop i H'
  yld : ∀ B' H' i x H3 d, Ex B B' → Ex B' H' → J.yld i H' x H3 → ds[i]? = some d → (H3 = H' ∧ Fz K B' x d) ∨ (∃ p o, H' p = none ∧ H3 = upd H' p o ∧ Fz K (upd B' p o) x d) ∨ ∃ p xs, H' p = some (.tup xs) ∧ B' p = none ∧ H3 = H' ∧ Fz K (upd B' p (.tup xs)) x d
def IV (X : Cx) (W : WX) (tg iter : Expr) (f : M (List D)) : Prop := ∀ (F : Fr) (ρ : Env) (σ : St) (B H : Hp) (R : It → Hp → Prop), Lv X.K F ρ σ B H →
  Post X W F σ B (f ρ) (fun ds _ B' H' => ∀ J, ItOk X.K J B' ds → R J H') → wi X tg iter σ H R
def mIter (f : M D) : M (List D) := M.bind f fun d => M.opt (match d with
  | .lst ds => some ds
  | _ => none)
def rangeD (lo hi : Int) : List D := (List.range (hi - lo).toNat).map fun (i : Nat) => D.int (lo + (i : Int))
theorem rangeD_len (lo hi : Int) : (rangeD lo hi).length = (hi - lo).toNat := by unfold rangeD; rw [List.length_map, List.length_range]
theorem it_range {K : PySem.W.Frag} {B : Hp} (lo hi : Int) : ItOk K (Itr lo (hi - lo).toNat) B (rangeD lo hi) where
  go := fun B' H' i e1 e2 h => by rw [rangeD_len] at h; exact h
  stop := fun B' H' i e1 e2 h => by rw [rangeD_len] at h; exact h
  yld := fun B' H' i x H3 d e1 e2 y hd => by
    obtain ⟨hH, hx⟩ := y
    unfold rangeD at hd
    rw [List.getElem?_map] at hd
    cases q : (List.range (hi - lo).toNat)[i]? with
    | none => rw [q] at hd; cases hd
    | some j =>
      rw [q] at hd
      obtain ⟨h1, h2⟩ := List.getElem?_eq_some_iff.mp q
      rw [List.getElem_range] at h2
      injection hd with hd
      subst hd; subst h2
      exact .inl ⟨hH, by rw [hx]; exact .int _⟩
def mRange1 (f : M (List D)) : M (List D) := M.bind f fun ds => M.opt (match ds with
  | [.int j] => if -100000000 < j ∧ j < 100000000 then some (rangeD 0 j) else none
  | _ => none)
def mRange2 (f : M (List D)) : M (List D) := M.bind f fun ds => M.opt (match ds with
  | [.int i, .int j] => if (-100000000 < i ∧ i < 100000000) ∧ (-100000000 < j ∧ j < 100000000) then some (rangeD i j) else none
  | _ => none)
theorem iv_range1 {a : Expr} {p : Pos} {f : M (List D)} (hg : Gl X "range") (hm : X.mg "range" = none) (ha : EA X W [a] f) (hs : starEach [a] X.env = [(false, eval a X.env)] := by rfl) : IV X W tg (.Call (.Name "range" p) [a] [] pos) (mRange1 f) := by
  intro F ρ σ B H R L P
  refine PI.wi (pi_range1 hg hm pa_wa hs) ?_
  refine ha F ρ σ B H _ L ((Post.bind P).imp fun ds ρ1 B1 H1 e1 L1 P1 vs fs => ?_)
  obtain ⟨xs, hd, k⟩ := P1.opt
  split at hd
  · rename_i j
    cases fs with
    | cons f1 fs =>
      cases fs
      cases f1
      split at hd
      · rename_i hj
        injection hd with hd; subst hd
        refine ⟨j, rfl, by omega, by omega, ?_⟩
        have := k B1 H1 (Ex.refl _) L1 (Itr 0 j.toNat) (by have q := it_range (K := X.K) (B := B1) 0 j; rw [show j - 0 = j by omega] at q; exact q)
        exact this
      · cases hd
  · cases hd
def mForL (g : D → Env → Option Env) (b : M Fl) : List D → M Fl
  | [] => mNx
  | d :: r => fun ρ => match g d ρ with
    | none => .fail
    | some ρ1 => M.bind b (fun fl => match fl with
      | .nx => mForL g b r
      | .ct => mForL g b r
      | .bk => mNx
      | .rt d o => M.pure (.rt d o)) ρ1
def mFor (f : M (List D)) (g : D → Env → Option Env) (b : M Fl) : M Fl := M.bind f (mForL g b)
theorem sv_for {iter : Expr} {body : List Stmt} {is : List Nat} {f : M (List D)} {g : D → Env → Option Env} {b : M Fl} (hp : PassesOwn (model X.prog X.w) X.A X.env X.xe) (hc : X.calm = true) (hi : IV X W tg iter f) (hg : GV X tg is g) (hb : SVs X W body b)
    (hs : ∀ x, foldedSetIterable iter X.env x = pure x := by intro _; rfl) : SV X W (.For tg iter body [] pos) (mFor f g b) := by
  intro F ρ σ B H N L P
  refine PS.ws (ps_for hp hc pi_wi pg_wg pss_wss hs) ?_
  refine hi F ρ σ B H _ L ((PostS.bind P).imp fun ds ρ1 B1 H1 e1 L1 P1 J hJ => ?_)
  refine ⟨fun i m σ' H' => m = ds.length - i ∧ i ≤ ds.length ∧ ∃ ρ' B', Lv X.K F ρ' σ' B' H' ∧ Ex B1 B' ∧ PostS X W F B' (mForL g b (ds.drop i) ρ') N, ⟨ds.length, by simp, Nat.zero_le _, ρ1, B1, L1, Ex.refl _, P1⟩, ?_⟩
  rintro i m σ2 H2 ⟨rfl, hi2, ρ2, B2, L2, e2, P2⟩
  by_cases hlt : i < ds.length
  · refine .inr ⟨hJ.go B2 H2 i e2 L2.ex hlt, fun σ' H' => ∃ ρ' B', Lv X.K F ρ' σ' B' H' ∧ Ex B1 B' ∧ PostS X W F B' (mForL g b (ds.drop (i + 1)) ρ') N, fun σ' H' q => ⟨ds.length - (i + 1), by omega, rfl, hlt, q⟩, fun x H3 hy => ?_⟩
    rw [List.drop_eq_getElem_cons hlt] at P2
    have hd : ds[i]? = some ds[i] := List.getElem?_eq_getElem hlt
    have fin : ∀ (B3 : Hp), Ex B2 B3 → Lv X.K F ρ2 σ2 B3 H3 → Fz X.K B3 x ds[i] → wg X tg x σ2 H3 (fun σ3 H4 => wss X body { nx := fun σ' H' => ∃ ρ' B', Lv X.K F ρ' σ' B' H' ∧ Ex B1 B' ∧ PostS X W F B' (mForL g b (ds.drop (i + 1)) ρ') N, rt := N.rt, bk := N.nx, ct := fun σ' H' => ∃ ρ' B', Lv X.K F ρ' σ' B' H' ∧ Ex B1 B' ∧ PostS X W F B' (mForL g b (ds.drop (i + 1)) ρ') N } σ3 H4) := by
      intro B3 e3 L3 fx
      refine hg F ρ2 σ2 B3 H3 x ds[i] _ L3 fx ?_
      have P3 : PostS X W F B2 (match g ds[i] ρ2 with | none => .fail | some ρ1 => M.bind b (fun fl => match fl with | .nx => mForL g b (ds.drop (i + 1)) | .ct => mForL g b (ds.drop (i + 1)) | .bk => mNx | .rt d o => M.pure (.rt d o)) ρ1) N := P2
      cases q : g ds[i] ρ2 with
      | none => rw [q] at P3; exact P3.elim
      | some ρ3 =>
        rw [q] at P3
        intro σ4 B4 H4 _ e4 L4
        refine hb F ρ3 σ4 B4 H4 _ L4 ?_
        have P4 := PostS.weak P3 (e3.trans e4)
        have P5 : PostS X W F B4 (M.bind b _ ρ3) N := P4
        unfold M.bind at P5
        cases q2 : b ρ3 with
        | ok fl ρ4 =>
          rw [q2] at P5
          cases fl with
          | nx => exact fun σ' B' H' e' L' => ⟨ρ4, B', L', ((e2.trans e3).trans e4).trans e', PostS.weak P5 e'⟩
          | ct => exact fun σ' B' H' e' L' => ⟨ρ4, B', L', ((e2.trans e3).trans e4).trans e', PostS.weak P5 e'⟩
          | bk => exact P5
          | rt d o => exact P5
        | rz c ρ4 => rw [q2] at P5; exact P5
        | fail => rw [q2] at P5; exact P5
    rcases hJ.yld B2 H2 i x H3 _ e2 L2.ex hy hd with ⟨rfl, fx⟩ | ⟨p, o, hp2, rfl, fx⟩ | ⟨p, xs, hp2, hp3, rfl, fx⟩
    · exact fin B2 (Ex.refl _) L2 fx
    · exact fin _ (Ex.new (L2.ex.nn hp2)) (L2.alloc hp2) fx
    · exact fin _ (Ex.new hp3) (L2.freezeT hp2 hp3) fx
  · have e : i = ds.length := by omega
    subst e
    rw [List.drop_length] at P2
    exact .inl ⟨hJ.stop B2 H2 _ e2 L2.ex (Nat.le_refl _), P2 σ2 B2 H2 (Ex.refl _) L2⟩
end
end Dt
namespace Dt
open PySem PySem.Spec PyProof.Rows L2
section
variable {X : Cx} {K : PySem.W.Frag}
def iI (C : Int → Int → Bool) (f : Int → Int → Int) : D → D → Option D
  | .int i, .int j => if C i j = true then some (.int (f i j)) else none
  | _, _ => none
def iB (f : Int → Int → Bool) : D → D → Option D
  | .int i, .int j => some (.bl (f i j))
  | _, _ => none
theorem opd_I {C : Int → Int → Prop} {c : Int → Int → Bool} {f : Int → Int → Int} (hc : ∀ i j, c i j = true → C i j) : OpD K (rI C fun i j => .int (f i j)) (iI c f) := by
  intro x y dx dy d B H Q ex fx fy h g
  unfold iI at h
  split at h
  · cases fx; cases fy
    split at h
    · rename_i hh
      injection h with h; subst h
      exact ⟨_, _, rfl, rfl, hc _ _ hh, g.1 _ (.int _)⟩
    · cases h
  · cases h
theorem opd_I0 {f : Int → Int → Int} : OpD K (rI0 fun i j => .int (f i j)) (iI (fun _ _ => true) f) := by
  intro x y dx dy d B H Q ex fx fy h g
  unfold iI at h
  split at h
  · cases fx; cases fy
    rw [if_pos rfl] at h
    injection h with h; subst h
    exact ⟨_, _, rfl, rfl, g.1 _ (.int _)⟩
  · cases h
theorem opd_B {f : Int → Int → Bool} : OpD K (rI0 fun i j => .bl (f i j)) (iB f) := by
  intro x y dx dy d B H Q ex fx fy h g
  unfold iB at h
  split at h
  · cases fx; cases fy
    injection h with h; subst h
    exact ⟨_, _, rfl, rfl, g.1 _ (.bl _)⟩
  · cases h
def mulOk (i j : Int) : Bool := decide (i.natAbs.log2 + j.natAbs.log2 < 100000000)
theorem mulOk_ok {i j : Int} (h : mulOk i j = true) : IntMulOk i j := by
  have b : ∀ x : Int, Builtin.Int.intBits x ≤ x.natAbs.log2 + 1 := fun x => by
    unfold Builtin.Int.intBits
    split <;> omega
  have h1 := b i
  have h2 := b j
  have h3 : i.natAbs.log2 + j.natAbs.log2 < 100000000 := of_decide_eq_true h
  have e : bitsLine = 134217728 := by decide
  unfold IntMulOk
  intro z
  rw [Bool.and_eq_true] at z
  have z2 := z.2
  unfold Builtin.Int.intTooBig at z2
  have z3 := of_decide_eq_true z2
  rw [e] at z3
  omega
theorem op_mulB : OpR X (binaryOp .Mult) (rI (fun i j => mulOk i j = true) fun i j => .int (i * j)) := opI fun _ _ _ _ _ _ _ hc q => mul_int q (mulOk_ok hc)
def divOk (_ j : Int) : Bool := decide (j ≠ 0)
def modOk (_ j : Int) : Bool := decide (j ≠ 0)
theorem op_modB : OpR X (binaryOp .Mod) (rI (fun i j => modOk i j = true) fun i j => .int (i.fmod j)) := opI fun _ _ _ _ _ _ _ hc q => mod_int' (of_decide_eq_true hc) q
def powOk (i j : Int) : Bool := decide (0 ≤ j) && decide (j ≤ 1000) && decide (i.natAbs < 2 ^ 64)
theorem op_powB : OpR X (binaryOp .Pow) (rI (fun i j => powOk i j = true) fun i j => .int (i ^ j.toNat)) := opI fun _ _ _ _ _ _ _ hc q => by
  unfold powOk at hc
  rw [Bool.and_eq_true, Bool.and_eq_true] at hc
  have h1 := of_decide_eq_true hc.1.1
  have h2 := of_decide_eq_true hc.1.2
  have h3 := of_decide_eq_true hc.2
  exact pow_int_small h1 (by omega) h3 q
def dSub : D → D → Option D := iI (fun _ _ => true) fun i j => i - j
def dDiv : D → D → Option D := iI divOk fun i j => i.fdiv j
def dMod : D → D → Option D := iI modOk fun i j => i.fmod j
def dPow : D → D → Option D := iI powOk fun i j => i ^ j.toNat
def dLt : D → D → Option D := iB fun i j => decide (i < j)
def dLe : D → D → Option D := iB fun i j => decide (i ≤ j)
def dGt : D → D → Option D := iB fun i j => decide (j < i)
def dGe : D → D → Option D := iB fun i j => decide (j ≤ i)
variable {W : WX} {e a b c : Expr} {pos : Pos} {f1 f2 f3 : M D}
theorem ev_sub (ha : EV X W a f1) (hb : EV X W b f2) : EV X W (.BinOp a .Sub b pos) (mBin dSub f1 f2) := ev_op op_sub opd_I0 ha hb
theorem ev_mod (ha : EV X W a f1) (hb : EV X W b f2) : EV X W (.BinOp a .Mod b pos) (mBin dMod f1 f2) := ev_op op_modB (opd_I fun _ _ h => h) ha hb
theorem ev_pow (ha : EV X W a f1) (hb : EV X W b f2) : EV X W (.BinOp a .Pow b pos) (mBin dPow f1 f2) := ev_op op_powB (opd_I fun _ _ h => h) ha hb
theorem et_lt (ha : EV X W a f1) (hb : EV X W b f2) : ET X W (.Compare a [.Lt] [b] pos) (mTest (mBin dLt f1 f2)) := et_cmp op_lt opd_B ha hb
def dNeg : D → Option D
  | .int i => some (.int (-i))
  | _ => none
theorem ev_neg (ha : EV X W a f1) : EV X W (.UnaryOp .USub a pos) (mUn dNeg f1) := ev_un un_neg (fun x dx d B H Q ex fx h g => by
  cases fx with
  | int i => injection h with h; subst h; exact ⟨i, rfl, g.1 _ (.int _)⟩
  | _ => cases h) ha
def tooLong (n : Nat) : Bool := decide (10000000 < n)
def dAdd : D → D → Option D
  | .int i, .int j => some (.int (i + j))
  | .str x, .str y => if tooLong (x.length + y.length) = true then none else some (.str (x ++ y))
  | .lst xs, .lst ys => if tooLong (xs.length + ys.length) = true then none else some (.lst (xs ++ ys))
  | .tup xs, .tup ys => if tooLong (xs.length + ys.length) = true then none else some (.tup (xs ++ ys))
  | _, _ => none
theorem notLong {n : Nat} (h : ¬ tooLong n = true) : n ≤ sizeLine := by
  have h1 : n ≤ 10000000 := by
    unfold tooLong at h
    rw [decide_eq_true_iff] at h
    omega
  exact Nat.le_trans h1 (by decide)
theorem len_line' {n : Nat} (h : n ≤ 10000000) : n ≤ sizeLine := Nat.le_trans h (by decide)
theorem ev_add (ha : EV X W a f1) (hb : EV X W b f2) : EV X W (.BinOp a .Add b pos) (mBin dAdd f1 f2) := by
  refine ev_op (((op_add.or op_add_str).or op_catA).or op_cat) (fun x y dx dy d B H Q ex fx fy h g => ?_) ha hb
  cases fx with
  | int i =>
    cases fy with
    | int j => injection h with h; subst h; exact .inl (.inl (.inl ⟨i, j, rfl, rfl, g.1 _ (.int _)⟩))
    | _ => cases h
  | str x =>
    cases fy with
    | str y =>
      have h' : (if tooLong (x.length + y.length) = true then none else some (D.str (x ++ y))) = some d := h
      split at h'
      · cases h'
      · rename_i hl
        injection h' with h'; subst h'
        exact .inl (.inl (.inr ⟨x, y, rfl, rfl, notLong hl, g.1 _ (.str _)⟩))
    | _ => cases h
  | @lst l xs ds hl fs =>
    cases fy with
    | @lst l2 ys es hl2 fs2 =>
      have h' : (if tooLong (ds.length + es.length) = true then none else some (D.lst (ds ++ es))) = some d := h
      split at h'
      · cases h'
      · rename_i hz
        injection h' with h'; subst h'
        refine .inr ⟨l, l2, xs, ys, rfl, rfl, ex _ _ hl, ex _ _ hl2, by rw [fs.len, fs2.len]; exact notLong hz, fun p hp => g.2 p _ _ hp (.lst upd_same ?_)⟩
        exact (fs.append fs2).mono (Ex.new (ex.nn hp))
    | _ => cases h
  | @tup l xs ds hl fs =>
    cases fy with
    | @tup l2 ys es hl2 fs2 =>
      have h' : (if tooLong (ds.length + es.length) = true then none else some (D.tup (ds ++ es))) = some d := h
      split at h'
      · cases h'
      · rename_i hz
        injection h' with h'; subst h'
        refine .inl (.inr ⟨l, l2, xs, ys, rfl, rfl, ex.st hl, ex.st hl2, by rw [fs.len, fs2.len]; exact notLong hz, fun z => ?_, fun _ z => ?_, fun _ _ p hp => g.2 p _ _ hp (.tup (.inl (.inl upd_same)) ((fs.append fs2).mono (Ex.new (ex.nn hp))))⟩)
        · subst z; cases fs; exact g.1 _ (.tup hl2 fs2)
        · subst z; cases fs2
          rw [List.append_nil] at g
          exact g.1 _ (.tup hl fs)
    | _ => cases h
  | _ => cases h
def dMul : D → D → Option D
  | .int i, .int j => if mulOk i j = true then some (.int (i * j)) else none
  | .lst xs, .int k => if k < 10000 ∧ -10000 < k ∧ xs.length ≤ 1000 then some (.lst (List.replicate k.toNat xs).flatten) else none
  | _, _ => none
theorem Fzs.rep {K : PySem.W.Frag} {B : Hp} {vs : List V} {ds : List D} (h : Fzs K B vs ds) : ∀ k : Nat, Fzs K B (List.replicate k vs).flatten (List.replicate k ds).flatten
  | 0 => .nil
  | k + 1 => by
    rw [List.replicate_succ, List.replicate_succ, List.flatten_cons, List.flatten_cons]
    exact Fzs.append h (Fzs.rep h k)
theorem ev_mul (ha : EV X W a f1) (hb : EV X W b f2) : EV X W (.BinOp a .Mult b pos) (mBin dMul f1 f2) := by
  refine ev_op (op_mulB.or op_rep) (fun x y dx dy d B H Q ex fx fy h g => ?_) ha hb
  cases fx with
  | int i =>
    cases fy with
    | int j =>
      have h' : (if mulOk i j = true then some (D.int (i * j)) else none) = some d := h
      split at h'
      · rename_i hm
        injection h' with h'; subst h'; exact .inl ⟨i, j, rfl, rfl, hm, g.1 _ (.int _)⟩
      · cases h'
    | _ => cases h
  | @lst l xs ds hl fs =>
    cases fy with
    | int k =>
      have h' : (if k < 10000 ∧ -10000 < k ∧ ds.length ≤ 1000 then some (D.lst (List.replicate k.toNat ds).flatten) else none) = some d := h
      split at h'
      · rename_i hk
        injection h' with h'; subst h'
        refine .inr ⟨l, k, xs, rfl, rfl, ex _ _ hl, by omega, by omega, ?_, fun p hp => g.2 p _ _ hp (.lst upd_same ((fs.rep k.toNat).mono (Ex.new (ex.nn hp))))⟩
        have h1 : xs.length ≤ 1000 := by rw [fs.len]; exact hk.2.2
        have h2 : k.toNat ≤ 10000 := by omega
        exact len_line' (Nat.le_trans (Nat.mul_le_mul h1 h2) (by decide))
      · cases h'
    | _ => cases h
  | _ => cases h
def shp (d : D) : Bool := SeqAt.shaped d.py
def dEq : D → D → Option D
  | .int i, .int j => some (.bl (i == j))
  | .str i, .str j => some (.bl (i == j))
  | d, e => if shp d = true ∧ shp e = true then some (.bl (PyData.eqv d.py e.py)) else none
def dNe : D → D → Option D
  | .int i, .int j => some (.bl (!(i == j)))
  | .str i, .str j => some (.bl (!(i == j)))
  | d, e => if shp d = true ∧ shp e = true then some (.bl (!PyData.eqv d.py e.py)) else none
theorem opd_eq : OpD K (fun x y H Q => rEq x y H Q ∨ rEqD K x y H Q) dEq := by
  intro x y dx dy d B H Q ex fx fy h g
  unfold dEq at h
  split at h
  · cases fx; cases fy
    injection h with h; subst h
    exact .inl ⟨rfl, by rw [dec_int]; exact g.1 _ (.bl _)⟩
  · cases fx; cases fy
    injection h with h; subst h
    exact .inl ⟨rfl, by rw [dec_str]; exact g.1 _ (.bl _)⟩
  · split at h
    · rename_i hh
      injection h with h; subst h
      exact .inr ⟨_, _, fx.dp ex (D.nd_lay (SeqAt.canLay_of_shaped hh.1)), fy.dp ex (D.nd_lay (SeqAt.canLay_of_shaped hh.2)), hh.1, hh.2, g.1 _ (.bl _)⟩
    · cases h
theorem opd_ne : OpD K (fun x y H Q => rNe x y H Q ∨ rNeD K x y H Q) dNe := by
  intro x y dx dy d B H Q ex fx fy h g
  unfold dNe at h
  split at h
  · cases fx; cases fy
    injection h with h; subst h
    exact .inl ⟨rfl, by rw [dec_int]; exact g.1 _ (.bl _)⟩
  · cases fx; cases fy
    injection h with h; subst h
    exact .inl ⟨rfl, by rw [dec_str]; exact g.1 _ (.bl _)⟩
  · split at h
    · rename_i hh
      injection h with h; subst h
      exact .inr ⟨_, _, fx.dp ex (D.nd_lay (SeqAt.canLay_of_shaped hh.1)), fy.dp ex (D.nd_lay (SeqAt.canLay_of_shaped hh.2)), hh.1, hh.2, g.1 _ (.bl _)⟩
    · cases h
theorem et_eq (hu : X.A.units + 64 < cLine) (ha : EV X W a f1) (hb : EV X W b f2) : ET X W (.Compare a [.Eq] [b] pos) (mTest (mBin dEq f1 f2)) := et_cmp (op_eq.or (op_eqD hu)) opd_eq ha hb
theorem et_ne (hu : X.A.units + 64 < cLine) (ha : EV X W a f1) (hb : EV X W b f2) : ET X W (.Compare a [.NotEq] [b] pos) (mTest (mBin dNe f1 f2)) := et_cmp (op_ne.or (op_neD hu)) opd_ne ha hb
def dIs : D → D → Option D
  | .bl i, .bl j => some (.bl (decide (i = j)))
  | .non, .non => some (.bl true)
  | .lst _, .non => some (.bl false)
  | .tup _, .non => some (.bl false)
  | .int _, .non => some (.bl false)
  | .str _, .non => some (.bl false)
  | .key _, .non => some (.bl false)
  | _, _ => none
def dIsNot : D → D → Option D
  | .bl i, .bl j => some (.bl (!decide (i = j)))
  | .non, .non => some (.bl false)
  | .lst _, .non => some (.bl true)
  | .tup _, .non => some (.bl true)
  | .int _, .non => some (.bl true)
  | .str _, .non => some (.bl true)
  | .key _, .non => some (.bl true)
  | _, _ => none
def dIx : D → D → Option D
  | .lst ds, .int i => atI ds i
  | .tup ds, .int i => atI ds i
  | .scr ns, .int i => (atI ns i).map D.int
  | .str x, .int i => if tooLong x.length = true then none else (atI x.cps.toList i).map fun c => D.str ⟨#[c]⟩
  | _, _ => none
theorem Fzs.atI {K : PySem.W.Frag} {B : Hp} {vs : List V} {ds : List D} {i : Int} {d : D} (h : Fzs K B vs ds) (e : L2.atI ds i = some d) : ∃ v, L2.atI vs i = some v ∧ Fz K B v d := by
  unfold L2.atI at e ⊢
  rw [h.len]
  cases q : ixN ds.length i with
  | none => rw [q] at e; cases e
  | some j =>
    rw [q] at e
    exact h.get e
theorem opd_ix : OpD K (rIx K) dIx := by
  intro x y dx dy d B H Q ex fx fy h g
  cases fx with
  | @lst l xs ds hl fs =>
    cases fy with
    | int i =>
      obtain ⟨v, h1, h2⟩ := fs.atI (show L2.atI ds i = some d from h)
      exact .inl ⟨l, xs, i, v, rfl, rfl, .inl (.inl (ex _ _ hl)), h1, g.1 _ h2⟩
    | _ => cases h
  | @tup l xs ds hl fs =>
    cases fy with
    | int i =>
      obtain ⟨v, h1, h2⟩ := fs.atI (show L2.atI ds i = some d from h)
      exact .inr (.inl ⟨l, xs, i, v, rfl, rfl, ex.st hl, h1, g.1 _ h2⟩)
    | _ => cases h
  | @scr l ns hl =>
    cases fy with
    | int i =>
      have h' : (L2.atI ns i).map D.int = some d := h
      cases q : L2.atI ns i with
      | none => rw [q] at h'; cases h'
      | some n =>
        rw [q] at h'
        injection h' with h'; subst h'
        refine .inl ⟨l, ns.map V.int, i, .int n, rfl, rfl, ex.sl hl, ?_, g.1 _ (.int n)⟩
        unfold L2.atI at q ⊢
        rw [List.length_map]
        cases q2 : ixN ns.length i with
        | none => rw [q2] at q; cases q
        | some j =>
          rw [q2] at q
          have q' : ns[j]? = some n := q
          show (ns.map V.int)[j]? = some (V.int n)
          rw [List.getElem?_map, q']; rfl
    | _ => cases h
  | str x =>
    cases fy with
    | int i =>
      have h' : (if tooLong x.length = true then none else (L2.atI x.cps.toList i).map fun c => D.str ⟨#[c]⟩) = some d := h
      split at h'
      · cases h'
      · rename_i hz
        cases q : L2.atI x.cps.toList i with
        | none => rw [q] at h'; cases h'
        | some c =>
          rw [q] at h'
          injection h' with h'; subst h'
          exact .inr (.inr ⟨x, i, c, rfl, rfl, notLong hz, q, g.1 _ (.str _)⟩)
    | _ => cases h
  | _ => cases h
theorem ev_item (ha : EV X W a f1) (hb : EV X W b f2) (hs : PlainIx b := by exact fun _ _ => rfl) : EV X W (.Subscript a b pos) (mBin dIx f1 f2) := ev_ix ix_seq opd_ix ha hb hs
end
end Dt
namespace Dt
open PySem PySem.Spec PyProof.Rows L2
structure Quiet0 (P : Program) (base : Heap) (A : Around) : Prop where
  g : A.guards = some []
  s : base.NoSeer
  t : P.given.tree = none
structure Quiet (P : Program) (base : Heap) (A : Around) : Prop extends Quiet0 P base A where
  f : ∃ env l, A.frames = some (env :: l) ∧ env.scope.isGenerator = false ∧ env.scope.isCoroutine = false ∧ env.builtins = builtinsNs ∧ env.globals = mainGlobals
theorem op_fdivB {X : Cx} {k : Nat} (gd : Quiet X.prog X.base X.A) (hr : Room k X.A) (hk : 32 ≤ k) : OpR X (binaryOp .FloorDiv) (rI (fun i j => divOk i j = true) fun i j => .int (i.fdiv j)) := by
  intro pins s σ H x y v u Q I rx ry h
  obtain ⟨i, j, rfl, rfl, hc, q⟩ := h
  obtain ⟨t, rfl⟩ := rx
  obtain ⟨t', rfl⟩ := ry
  obtain ⟨env, l, f1, f2, f3, f4, f5⟩ := gd.f
  have hd := hr.dp
  exact floordiv_int (of_decide_eq_true hc) ⟨.int (i.fdiv j), H, I.tok _, ⟨_, rfl⟩, q⟩ (.inr (PySem.PylongRoom.of I.nolimit (by show X.A.depth + 100 < _; omega) (PySem.SeerAt.of (gd.s.keeps I.bk) gd.t f1 f2 f3 f4 f5)))
theorem ev_fdiv {X : Cx} {W : WX} {k : Nat} {a b : Expr} {pos : Pos} {f1 f2 : M D} (gd : Quiet X.prog X.base X.A) (hr : Room k X.A) (hk : 32 ≤ k) (ha : EV X W a f1) (hb : EV X W b f2) : EV X W (.BinOp a .FloorDiv b pos) (mBin dDiv f1 f2) := ev_op (op_fdivB gd hr hk) (opd_I fun _ _ h => h) ha hb
structure FnG (P : Program) (w : World) (K : PySem.W.Frag) (mg : Str → Option Value) (base : Heap) (k : Nat) (f : Addr) (fd : FuncData) (ps : List Str) (sp : Sp) : Prop where
  many : ∀ vs H Q E, sp vs H Q E → vs.length = ps.length
  go : ∀ {A : Around} {o : List PySem.Env} {s : Shared} {H : Hp} {g : Args} {us : List Value} {vs : List V} {Q : VK} {E : XK}, Quiet0 P base A → Room k A → Env0 P w K mg base A o s H →
    BindsTo s fd g (ps.zip us) → Vals vs us → sp vs H Q E → codeAny (model P w) A (.call (.ref f) g) (CR (L2.CX P w) o P w H s Q E) s
theorem fng_of {P : Program} {w : World} {K : PySem.W.Frag} {mg : Str → Option Value} {base : Heap} {x qual : Str} {st : Stmt} {f : Addr} {fd : FuncData} {N ps : List Str} {k : Nat} {sp : Sp} (F : Fun K x qual st f fd) (S : FnScope N ps (defScope st)) (many : ∀ vs H Q E, sp vs H Q E → vs.length = ps.length)
    (hb : ∀ (c : Value) (A : Around) (o : List PySem.Env) (s : Shared) (H : Hp) (vs : List V) (Q : VK) (E : XK), Quiet P base (A.deeper (envOfC qual (defScope st) s.heap.objs.size f c)) → Room k (A.deeper (envOfC qual (defScope st) s.heap.objs.size f c)) → sp vs H Q E →
      ∃ t, PSs (cxOf (L2.CX P w) P w K mg base N qual (defScope st) f c A o s H E) (defBody st) t ∧ t { nx := fun _ Z => Q .non Z, rt := Q } (start N vs) H) : FnG P w K mg base (k + 1) f fd ps sp := by
  obtain ⟨_, _, _, _, _, _, c, _, _, rfl, look, code⟩ := F.ex
  refine ⟨many, @fun A o s H g us vs Q E quiet room e0 bnd rv spec => ?_⟩
  have kin : K.In s.heap := e0.mod.kin.keeps fun b z q => (e0.bs b z q).1
  have nol : s.heap.NoLimit := e0.mod.nolimit.keeps fun b z q => (e0.bs b z q).1
  have kd : ∀ y ∈ ps.zip us, (defScope st).names.lookup y.1 = some .local ∨ ((defScope st).names.lookup y.1 = some .cell ∧ ((cellsFrom (s.heap.objs.size + 1) (defScope st).names []).lookup y.1).isSome = true) := by
    rintro ⟨n, v⟩ hy
    exact (S.par n (List.of_mem_zip hy).1).imp id fun q => ⟨q, PySem.W.cellsFrom_some _ _ _ (.inl q)⟩
  refine codeAny_call_function room.depth (kin _ _ look) rfl S.co S.gen rfl (PySem.W.codeRec_of kin code) (bnd _ _ _ _ (wpAny_newFunctionEnv_cells S.kind kd ?_))
  rintro _ rfl s1 ic
  refine ⟨nol.keeps ic.toInCall.keep, codeAny_func ?_⟩
  obtain ⟨t, ht, hq⟩ := hb c A o s H vs Q E ⟨⟨quiet.g, quiet.s, quiet.t⟩, _, _, Around.frames_deeper e0.frames, S.gen, S.co, rfl, rfl⟩ (room.deeper _) spec
  refine wpAny_mono (ht.run [] s1 _ H _ (inv_start (CX := L2.CX P w) (E := E) S room.hd e0 (many _ _ _ _ spec) rv ic) hq) ?_ (fun _ _ z => z)
  rintro (_ | _ | _ | u) z hz
  · obtain ⟨_, Z, J, q⟩ := hz
    exact ⟨.non, Z, J.os, J.bare, J.base, J.hok, rfl, q⟩
  · obtain ⟨_, _, _, q⟩ := hz
    exact q.elim
  · obtain ⟨_, _, _, q⟩ := hz
    exact q.elim
  · obtain ⟨v, _, Z, J, r, q⟩ := hz
    exact ⟨v, Z, J.os, J.bare, J.base, J.hok, r, q⟩
section
variable {X : Cx} {k : Nat} {f : Addr} {fd : FuncData} {ps : List Str} {sp : Sp} {E : St → XK} {x : Str} {p pos : Pos} {e : Expr} {es : List Expr} {t : TA}
theorem pe_callG (F : FnG X.prog X.w X.K X.mg X.base k f fd ps sp) (quiet : Quiet X.prog X.base X.A) (room : Room k X.A) (gl : Gl X x) (m : X.mg x = some (.ref f)) (kp : PySem.W.keepIn X.K (.ref f) = true) (bnd : Binds X.K fd ps []) (pass : ∀ σ, PassesAt (L2.CX X.prog X.w) X σ (E σ))
    (args : PA X (e :: es) t) (nd : (x == ("__debug__" : Str)) = false := by decide) (h1 : starEach (e :: es) X.env = (false, eval e X.env) :: starEach es X.env := by exact star_un rfl) (h2 : (backTo pos (starEach es X.env)).any (·.1) = false := by rfl) :
    PE X (.Call (.Name x p) (e :: es) [] pos) (tCallS sp E t) := by
  constructor
  intro pins s σ H Q I h
  refine wpAny_Call_Name_kw (ld_glob I gl m (PySem.W.callWith_K (h₀ := X.base) I.ok.mod.kin kp (thn (args.run pos pins s σ H _ I h) ?_) h1 h2) nd)
  rintro us s1 ⟨vs, H1, J, rv, q⟩
  refine ⟨J.kIn, ?_⟩
  have many : us.length = ps.length := rv.length ▸ F.many _ _ _ _ q
  have b0 := bnd s1 us J.kIn (by simpa using many)
  rw [List.append_nil] at b0
  refine wpAny_call (codeAny_mono (F.go quiet.toQuiet0 room J.env0 b0 rv q) ?_)
  rintro (err | (_ | _ | _ | u)) z hz
  · exact pass σ pins H1 s1 err z J hz
  · exact hz.elim
  · exact hz.elim
  · exact hz.elim
  · exact J.after hz
end
section
variable {P : Program} {w : World} {K : PySem.W.Frag} {mg mb : Str → Option Value} {k : Nat} {fa a : Addr} {fd : FuncData} {x : Str} {sp : Sp} {s : Shared} {vs : List Value} {ns : List Int}
abbrev Done (s : Shared) (r : Result) (z : Shared) : Prop := r = .ok (.ret (.bool true)) ∧ OldK s.heap z.heap ∧ z.os = s.os ∧ AllBare z.gens
abbrev scriptObj (vs : List Value) : Obj := { cls := .type "list", data := .seq vs.toArray }
end
end Dt
namespace Dt
open PySem PySem.Spec PyProof.Rows L2
structure Cr (A : Addr → Prop) (B H B' H' : Hp) : Prop where
  ex : Ex B' H'
  exB : Ex B B'
  kept : ∀ a o, H a = some o → ¬ A a → H' a = some o
  hid : ∀ a, B a = none → Ct H a → ¬ A a → B' a = none
  there : ∀ a, H a ≠ none → H' a ≠ none
theorem Cr.keeps {K : PySem.W.Frag} {F : Fr} {ρ : Env} {σ : St} {B H B' H' : Hp} {A : Addr → Prop} (L : Lv K F ρ σ B H) (c : Cr A B H B' H') (no : ∀ b, A b → ¬ OwS K B H ρ σ b) : ∀ a, OwS K B H ρ σ a → B' a = none ∧ ∀ o, H a = some o → H' a = some o := fun a w =>
  ⟨c.hid a (L.hidOw w).1 (L.hidOw w).2 fun z => no a z w, fun o q => c.kept a o q fun z => no a z w⟩
theorem Lv.callN {K : PySem.W.Frag} {F : Fr} {ρ : Env} {σ : St} {B H B' H' : Hp} {A : Addr → Prop} (L : Lv K F ρ σ B H) (c : Cr A B H B' H') (hA : ∀ b, A b → F.A b ∨ F.H0 b = none) (no : ∀ b, A b → ¬ OwS K B H ρ σ b) : Lv K F ρ σ B' H' := by
  refine L.move c.ex c.exB (c.keeps L no) (fun a o e n => ?_) (fun a e => c.there a (L.there a e)) (fun a e n k => ?_)
  · refine c.kept a o (L.kept a o e n) fun z => ?_
    rcases hA a z with q | q
    · exact n q
    · rw [q] at e; cases e
  · refine c.hid a (L.hid a e n k) (n.to fun o q => L.kept a o q k) fun z => ?_
    rcases hA a z with q | q
    · exact k q
    · exact n.ne q
inductive Rf where
  | ok (d : D) (o : Ob) (out : D)
  | rz (c : Str)
  | fail
inductive Args (K : PySem.W.Frag) (B H : Hp) (a : Addr) : Option Nat → List V → List D → Prop
  | nil : Args K B H a none [] []
  | fz {v : V} {d : D} {vs : List V} {ds : List D} : Fz K B v d → Args K B H a none vs ds → Args K B H a none (v :: vs) (d :: ds)
  | io {d : D} {vs : List V} {ds : List D} : Ow K B H a d → Args K B H a none vs ds → Args K B H a (some 0) (.ref a :: vs) (d :: ds)
  | fzS {j : Nat} {v : V} {d : D} {vs : List V} {ds : List D} : Fz K B v d → Args K B H a (some j) vs ds → Args K B H a (some (j + 1)) (v :: vs) (d :: ds)
def initS : Option Nat → List D → List Slot
  | _, [] => []
  | none, d :: r => .fz d :: initS none r
  | some 0, d :: r => .io d :: initS none r
  | some (j + 1), d :: r => .fz d :: initS (some j) r
def initE (m : Option Nat) (n : Nat) (ds : List D) : Env := initS m ds ++ List.replicate (n - ds.length) .un
def fin (m : Option Nat) (d : D) (o : Ob) (ρ : Env) : Rf := match m with
  | none => .ok d o .non
  | some j => match ρ[j]? with
    | some (.io out) => .ok d o out
    | _ => .fail
def runF (m : Option Nat) (n : Nat) (fb : M Fl) (ds : List D) : Rf := match fb (initE m n ds) with
  | .ok .nx ρ => fin m .non .ff ρ
  | .ok (.rt d o) ρ => fin m d o ρ
  | .rz c _ => .rz c
  | _ => .fail
def frP (m : Option Nat) (a : Addr) : List (Option Addr) := match m with
  | none => []
  | some j => List.replicate j none ++ [some a]
def ioA (m : Option Nat) (a : Addr) (b : Addr) : Prop := m ≠ none ∧ b = a
def frOf (m : Option Nat) (a : Addr) (B H : Hp) : Fr := ⟨B, H, ioA m a, frP m a⟩
def RV (K : PySem.W.Frag) (H B' H' : Hp) (a : Addr) (v : V) (d : D) : Ob → Prop
  | .tt => ∃ p, v = .ref p ∧ Ow K B' H' p d ∧ H p = none
  | .ff => Fz K B' v d
  | .dp m => ∃ S, Tr K B' H' m v d S ∧ S.Nodup ∧ ∀ p ∈ S, H p = none
  | .al => v = .ref a
def spF (K : PySem.W.Frag) (mg : Str → Option Value) (n : Nat) (m : Option Nat) (g : List D → Rf) : Sp := fun vs H Q E => ∃ (B : Hp) (ds : List D) (a : Addr), Ex B H ∧ Args K B H a m vs ds ∧ vs.length = n ∧
  match g ds with
  | .ok d o out => ∀ v B' H', Cr (ioA m a) B H B' H' → (m ≠ none → Ow K B' H' a out) → RV K H B' H' a v d o → Q v H'
  | .rz c => ∀ B' H', Cr (ioA m a) B H B' H' → E ((mg c).getD .none) none H'
  | .fail => False
section
variable {K : PySem.W.Frag} {B H : Hp} {a : Addr}
theorem Args.len : ∀ {m : Option Nat} {vs : List V} {ds : List D}, Args K B H a m vs ds → vs.length = ds.length
  | _, _, _, .nil => rfl
  | _, _, _, .fz _ r => by rw [List.length_cons, List.length_cons, Args.len r]
  | _, _, _, .io _ r => by rw [List.length_cons, List.length_cons, Args.len r]
  | _, _, _, .fzS _ r => by rw [List.length_cons, List.length_cons, Args.len r]
theorem initS_len : ∀ (m : Option Nat) (ds : List D), (initS m ds).length = ds.length
  | none, [] => rfl
  | some 0, [] => rfl
  | some (_ + 1), [] => rfl
  | none, d :: r => by show (initS none r).length + 1 = _; rw [initS_len none r]; rfl
  | some 0, d :: r => by show (initS none r).length + 1 = _; rw [initS_len none r]; rfl
  | some (j + 1), d :: r => by show (initS (some j) r).length + 1 = _; rw [initS_len (some j) r]; rfl
theorem Args.getF : ∀ {m : Option Nat} {vs : List V} {ds : List D} {i : Nat} {d : D}, Args K B H a m vs ds → (initS m ds)[i]? = some (.fz d) → ∃ v, vs[i]? = some v ∧ Fz K B v d
  | _, _, _, _, _, .nil, e => by simp [initS] at e
  | _, _, _, 0, _, .fz f _, e => by
    injection (show some (Slot.fz _) = some (Slot.fz _) from e) with e; injection e with e; subst e; exact ⟨_, rfl, f⟩
  | _, _, _, i + 1, d, .fz _ r, e => Args.getF (i := i) (d := d) r e
  | _, _, _, 0, _, .io _ _, e => by injection (show some (Slot.io _) = some (Slot.fz _) from e) with e; cases e
  | _, _, _, i + 1, d, .io _ r, e => Args.getF (i := i) (d := d) r e
  | _, _, _, 0, _, .fzS f _, e => by
    injection (show some (Slot.fz _) = some (Slot.fz _) from e) with e; injection e with e; subst e; exact ⟨_, rfl, f⟩
  | _, _, _, i + 1, d, .fzS _ r, e => Args.getF (i := i) (d := d) r e
theorem Args.getO : ∀ {m : Option Nat} {vs : List V} {ds : List D} {i : Nat} {s : Slot}, Args K B H a m vs ds → (initS m ds)[i]? = some s → owned s = true → m = some i ∧ vs[i]? = some (.ref a) ∧ Ow K B H a s.dat ∧ ∃ d, s = .io d
  | _, _, _, _, _, .nil, e, _ => by simp [initS] at e
  | _, _, _, 0, _, .fz f _, e, w => by injection (show some (Slot.fz _) = some _ from e) with e; subst e; cases w
  | _, _, _, i + 1, s, .fz _ r, e, w => by obtain ⟨h, _⟩ := Args.getO (i := i) (s := s) r e w; cases h
  | _, _, _, 0, _, .io f _, e, w => by injection (show some (Slot.io _) = some _ from e) with e; subst e; exact ⟨rfl, rfl, f, _, rfl⟩
  | _, _, _, i + 1, s, .io _ r, e, w => by obtain ⟨h, _⟩ := Args.getO (i := i) (s := s) r e w; cases h
  | _, _, _, 0, _, .fzS f _, e, w => by injection (show some (Slot.fz _) = some _ from e) with e; subst e; cases w
  | _, _, _, i + 1, s, .fzS _ r, e, w => by
    obtain ⟨h, q⟩ := Args.getO (i := i) (s := s) r e w
    injection h with h; subst h
    exact ⟨rfl, q⟩
theorem lv_start {m : Option Nat} {vs : List V} {ds : List D} {N : List Str} (A : Args K B H a m vs ds) (ex : Ex B H) (hN : vs.length ≤ N.length) :
    Lv K (frOf m a B H) (initE m N.length ds) (L2.start N vs) B H := by
  have hl := A.len
  have hs : ∀ {i : Nat} {s : Slot}, (initE m N.length ds)[i]? = some s → s = .un ∨ (initS m ds)[i]? = some s ∧ i < vs.length := fun {i s} e => by
    unfold initE at e
    by_cases h : i < (initS m ds).length
    · rw [List.getElem?_append_left h] at e
      exact .inr ⟨e, by rw [initS_len] at h; omega⟩
    · rw [List.getElem?_append_right (by omega)] at e
      exact .inl (List.eq_of_mem_replicate (List.mem_of_getElem? e))
  have ht : ∀ {i : Nat} {v : V}, vs[i]? = some v → (L2.start N vs)[i]? = some (some v) := fun {i v} e => by
    unfold L2.start
    have h := (List.getElem?_eq_some_iff.mp e).1
    rw [List.getElem?_append_left (by rw [List.length_map]; exact h), List.getElem?_map, e]; rfl
  refine ⟨ex, fun _ _ h _ => h, fun _ h => h, Ex.refl _, fun _ h _ _ => h, fun i d e => ?_, fun i s e w => ?_, fun i d e => ?_, fun i j s t v w S T b e1 e2 q1 q2 f1 f2 m1 m2 => ?_, ?_⟩
  · rcases hs e with z | ⟨e, _⟩
    · cases z
    · obtain ⟨v, e1, f⟩ := A.getF e
      exact ⟨v, ht e1, f⟩
  · rcases hs e with z | ⟨e, _⟩
    · subst z; cases w
    · obtain ⟨h1, h2, h3, d, rfl⟩ := A.getO e w
      exact ⟨.ref a, [a], ht h2, ⟨a, rfl, h3, rfl⟩, fun b hb => by rw [List.mem_singleton.mp hb]; exact .inl ⟨by rw [h1]; simp, rfl⟩⟩
  · rcases hs e with z | ⟨e, _⟩
    · cases z
    · obtain ⟨h1, h2, h3, _⟩ := A.getO e rfl
      subst h1
      refine ⟨a, ?_, ht h2⟩
      show (List.replicate i none ++ [some a])[i]? = some (some a)
      rw [List.getElem?_append_right (by rw [List.length_replicate]; omega), List.length_replicate, Nat.sub_self]; rfl
  · rcases hs e1 with z | ⟨e1, _⟩
    · subst z; exact f1.elim
    · rcases hs e2 with z | ⟨e2, _⟩
      · subst z; exact f2.elim
      · obtain ⟨h1, _⟩ := A.getO e1 f1.owned
        obtain ⟨h2, _⟩ := A.getO e2 f2.owned
        rw [h1] at h2; injection h2
  · show (initS m ds ++ List.replicate (N.length - ds.length) Slot.un).length = (vs.map some ++ List.replicate (N.length - vs.length) none).length
    rw [List.length_append, List.length_append, initS_len, List.length_replicate, List.length_replicate, List.length_map, hl]
end
theorem fn_def {P : Program} {w : World} {K : PySem.W.Frag} {mg : Str → Option Value} {base : Heap} {x qual : Str} {st : Stmt} {f : Addr} {fd : FuncData} {N ps : List Str} {k : Nat} {m : Option Nat} {fb : M Fl} (F : Fun K x qual st f fd) (S : FnScope N ps (defScope st)) (hps : ps.length ≤ N.length)
    (hbody : ∀ (cdv : Value) (A : Around) (outer : List PySem.Env) (s : Shared) (H : Hp) (E : XK), Quiet P base (A.deeper (envOfC qual (defScope st) s.heap.objs.size f cdv)) → Room k (A.deeper (envOfC qual (defScope st) s.heap.objs.size f cdv)) →
      SVs (cxOf (L2.CX P w) P w K mg base N qual (defScope st) f cdv A outer s H E) (fun cls d _ H => E cls d H) (defBody st) fb) : FnG P w K mg base (k + 1) f fd ps (spF K mg ps.length m (runF m N.length fb)) := by
  refine fng_of F S (fun vs H Q E h => by obtain ⟨_, _, _, _, _, h, _⟩ := h; exact h) (fun cdv A outer s H vs Q E gd hr h => ?_)
  refine ⟨_, pss_wss, ?_⟩
  obtain ⟨B, ds, a, ex, ar, hl, h⟩ := h
  have L := lv_start (N := N) ar ex (by omega)
  have done : ∀ {d : D} {o : Ob} {ρ' : Env} {v : V} {σ' : St} {B' H' : Hp}, (match fin m d o ρ' with
      | .ok d o out => ∀ v B' H', Cr (ioA m a) B H B' H' → (m ≠ none → Ow K B' H' a out) → RV K H B' H' a v d o → Q v H'
      | .rz c => ∀ B' H', Cr (ioA m a) B H B' H' → E ((mg c).getD .none) none H'
      | .fail => False) → Lv K (frOf m a B H) ρ' σ' B' H' → VO K (frOf m a B H) ρ' σ' B' H' v d o → Q v H' := by
    intro d o ρ' v σ' B' H' hq L' vo
    have cr : Cr (ioA m a) B H B' H' := ⟨L'.ex, L'.exB, L'.kept, L'.hid, L'.there⟩
    cases m with
    | none =>
      refine hq v B' H' cr (fun z => absurd rfl z) ?_
      cases o with
      | ff => exact vo
      | tt =>
        obtain ⟨p, e, ow, g, no⟩ := vo
        refine ⟨p, e, ow, ?_⟩
        rcases g with g | g
        · exact absurd rfl g.1
        · exact g
      | dp mk =>
        obtain ⟨S, t, nd, g⟩ := vo
        refine ⟨S, t, nd, fun p hp => ?_⟩
        rcases (g p hp).1 with g | g
        · exact absurd rfl g.1
        · exact g
      | al =>
        obtain ⟨j, b, p1, _⟩ := vo
        have p1' : ([] : List (Option Addr))[j]? = some (some b) := p1
        simp at p1'
    | some j =>
      unfold fin at hq
      cases q : ρ'[j]? with
      | none => simp only [q] at hq
      | some sl =>
        cases sl with
        | io out =>
          simp only [q] at hq
          obtain ⟨b, e1, w1, _⟩ := L'.ow j _ q rfl
          have pa : ∀ {j' : Nat} {b' : Addr}, (frP (some j) a)[j']? = some (some b') → b' = a := fun {j' b'} p1 => by
            have p1' : (List.replicate j none ++ [some a])[j']? = some (some b') := p1
            have := List.mem_of_getElem? p1'
            rcases List.mem_append.mp this with h | h
            · exact nomatch (List.eq_of_mem_replicate h)
            · injection List.mem_singleton.mp h
          obtain ⟨b', p1, e2⟩ := L'.io j _ q
          have hb : b' = a := pa p1
          have hb2 : b = b' := by rw [e1] at e2; injection e2 with z; injection z with z; injection z
          subst hb2; subst hb
          refine hq v B' H' cr (fun _ => w1) ?_
          have isO : OwS K B' H' ρ' σ' b := .mk q rfl e1 w1
          cases o with
          | ff => exact vo
          | tt =>
            obtain ⟨p, e, ow, g, no⟩ := vo
            refine ⟨p, e, ow, ?_⟩
            rcases g with g | g
            · obtain ⟨_, rfl⟩ := g
              exact absurd isO no
            · exact g
          | dp mk =>
            obtain ⟨S, t, nd, g⟩ := vo
            refine ⟨S, t, nd, fun p hp => ?_⟩
            rcases (g p hp).1 with h | h
            · obtain ⟨_, rfl⟩ := h
              exact absurd isO (g p hp).2
            · exact h
          | al =>
            obtain ⟨j', b', p1, rfl⟩ := vo
            rw [pa p1]; rfl
        | un => simp only [q] at hq
        | fz _ => simp only [q] at hq
        | ow _ => simp only [q] at hq
        | dp _ _ => simp only [q] at hq
  refine hbody cdv A outer s H E gd hr _ _ _ B H _ L ?_
  unfold runF at h
  cases q : fb (initE m N.length ds) with
  | ok fl ρ' =>
    rw [q] at h
    cases fl with
    | nx => exact fun σ' B' H' e' L' => done (v := .non) h L' (show Fz K B' V.non D.non from .non)
    | rt d o => exact fun v σ' B' H' e' L' vo => done h L' vo
    | bk => exact h.elim
    | ct => exact h.elim
  | rz c ρ' =>
    rw [q] at h
    exact fun σ' B' H' e' L' => h B' H' ⟨L'.ex, L'.exB, L'.kept, L'.hid, L'.there⟩
  | fail => rw [q] at h; exact h.elim
inductive AV where
  | v (d : D)
  | s (i : Nat)
inductive AOks (K : PySem.W.Frag) (B : Hp) (σ : St) : List V → List AV → Prop
  | nil : AOks K B σ [] []
  | v {x : V} {d : D} {xs : List V} {avs : List AV} : Fz K B x d → AOks K B σ xs avs → AOks K B σ (x :: xs) (.v d :: avs)
  | s {x : V} {i : Nat} {xs : List V} {avs : List AV} : σ[i]? = some (some x) → AOks K B σ xs avs → AOks K B σ (x :: xs) (.s i :: avs)
theorem AOks.mono {K : PySem.W.Frag} {B B' : Hp} {σ : St} (e : Ex B B') : ∀ {xs : List V} {avs : List AV}, AOks K B σ xs avs → AOks K B' σ xs avs
  | _, _, .nil => .nil
  | _, _, .v f r => .v (f.mono e) (AOks.mono e r)
  | _, _, .s f r => .s f (AOks.mono e r)
def EX (X : Cx) (W : WX) (es : List Expr) (f : M (List AV)) : Prop := ∀ (F : Fr) (ρ : Env) (σ : St) (B H : Hp) (Q : List V → Hp → Prop), Lv X.K F ρ σ B H →
  Post X W F σ B (f ρ) (fun avs _ B' H' => ∀ vs, AOks X.K B' σ vs avs → Q vs H') → wa X es σ H Q
def xNil : M (List AV) := M.pure []
def xV (f : M D) (g : M (List AV)) : M (List AV) := M.bind f fun x => M.bind g fun xs => M.pure (.v x :: xs)
def xS (i : Nat) (g : M (List AV)) : M (List AV) := M.bind (fun ρ => match ρ[i]? with
  | some (.ow _) => .ok () ρ
  | some (.io _) => .ok () ρ
  | _ => .fail) fun _ => M.bind g fun xs => M.pure (.s i :: xs)
section
variable {X : Cx} {W : WX} {e : Expr} {es : List Expr} {pos : Pos}
theorem ex_nil : EX X W [] xNil := fun F ρ σ B H Q L P => PA.wa pa_nil (P B H (Ex.refl _) L [] .nil)
theorem ex_v {f : M D} {g : M (List AV)} (ha : EV X W e f) (hr : EX X W es g) (hs : starEach (e :: es) X.env = (false, eval e X.env) :: starEach es X.env := by exact star_un rfl) : EX X W (e :: es) (xV f g) := by
  intro F ρ σ B H Q L P
  refine PA.wa (pa_cons pe_we pa_wa hs) ?_
  refine ha F ρ σ B H _ L ((Post.bind P).imp fun dx ρ1 B1 H1 e1 L1 P1 x fx => ?_)
  refine hr F ρ1 σ B1 H1 _ L1 ((Post.bind P1).imp fun ds ρ2 B2 H2 e2 L2 P2 xs fs => ?_)
  exact P2 B2 H2 (Ex.refl _) L2 _ (.v (fx.mono e2) fs)
theorem ex_s (i : Nat) {x : Str} {p : Pos} {g : M (List AV)} (hr : EX X W es g) (hN : X.N[i]? = some x := by rfl) (hv : Vis X.env.scope x := by first | exact Or.inl rfl | exact Or.inr (Or.inl rfl) | exact Or.inr (Or.inr rfl)) (hd : (x == ("__debug__" : Str)) = false := by decide)
    (hcd : (x == ("__classdict__" : Str)) = false := by decide) (hs : starEach (.Name x p :: es) X.env = (false, eval (.Name x p) X.env) :: starEach es X.env := by rfl) : EX X W (.Name x p :: es) (xS i g) := by
  intro F ρ σ B H Q L P
  refine PA.wa (pa_cons (pe_var hN hv hd hcd) pa_wa hs) ?_
  have P1 := Post.bind P
  have go : ∀ {v : V}, σ[i]? = some (some v) → Post X W F σ B ((M.bind g fun xs => M.pure (.s i :: xs)) ρ) (fun avs _ B' H' => ∀ vs, AOks X.K B' σ vs avs → Q vs H') → (tVar i σ H fun x H1 => wa X es σ H1 fun xs H2 => Q (x :: xs) H2) := by
    intro v ev P2
    refine ⟨v, ev, ?_⟩
    refine hr F ρ σ B H _ L ((Post.bind P2).imp fun ds ρ2 B2 H2 e2 L2 P2 xs fs => ?_)
    exact P2 B2 H2 (Ex.refl _) L2 _ (.s ev fs)
  cases q : ρ[i]? with
  | none => simp only [q] at P1; exact P1.elim
  | some sl =>
    cases sl with
    | ow d =>
      simp only [q] at P1
      obtain ⟨a, e1, _⟩ := L.ow i _ q rfl
      exact go e1 (P1 B H (Ex.refl _) L)
    | io d =>
      simp only [q] at P1
      obtain ⟨a, e1, _⟩ := L.ow i _ q rfl
      exact go e1 (P1 B H (Ex.refl _) L)
    | un => simp only [q] at P1; exact P1.elim
    | fz d => simp only [q] at P1; exact P1.elim
    | dp m d => simp only [q] at P1; exact P1.elim
def contS : Option Slot → Option D
  | some (.ow d) => some d
  | some (.io d) => some d
  | _ => none
def setup (ρ : Env) : Option Nat → List AV → Option (List D)
  | none, [] => some []
  | none, .v d :: r => (setup ρ none r).map (d :: ·)
  | some 0, .s i :: r => (contS ρ[i]?).bind fun d => (setup ρ none r).map (d :: ·)
  | some (j + 1), .v d :: r => (setup ρ (some j) r).map (d :: ·)
  | _, _ => none
def slotOf : Option Nat → List AV → Option Nat
  | some 0, .s i :: _ => some i
  | some (j + 1), _ :: r => slotOf (some j) r
  | _, _ => none
def reslot (s : Option Slot) (d : D) : Slot := match s with
  | some (.ow _) => .ow d
  | some (.io _) => .io d
  | _ => .un
def mCallF (m : Option Nat) (g : List D → Rf) (f : M (List AV)) : M (D × Ob) := M.bind f fun avs ρ => match setup ρ m avs with
  | none => .fail
  | some ds => match g ds with
    | .ok d o out => if o.ok = true then .ok (d, o) (match slotOf m avs with
      | none => ρ
      | some i => ρ.set i (reslot ρ[i]? out)) else .fail
    | .rz c => .rz c (match slotOf m avs with
      | none => ρ
      | some i => ρ.set i .un)
    | .fail => .fail
theorem setup_none {K : PySem.W.Frag} {B H : Hp} {σ : St} {ρ : Env} {a : Addr} : ∀ {vs : List V} {avs : List AV} {ds : List D}, AOks K B σ vs avs → setup ρ none avs = some ds → Args K B H a none vs ds
  | _, _, _, .nil, h => by injection h with h; subst h; exact .nil
  | _, _, _, .v f r, h => by
    have h' : (setup ρ none _).map (_ :: ·) = some _ := h
    cases q : setup ρ none _ with
    | none => rw [q] at h'; cases h'
    | some ds => rw [q] at h'; injection h' with h'; subst h'; exact .fz f (setup_none r q)
  | _, _, _, .s _ _, h => by cases (show (none : Option (List D)) = some _ from h)
theorem slotOf_none : ∀ (avs : List AV), slotOf none avs = none
  | [] => rfl
  | .v _ :: _ => rfl
  | .s _ :: _ => rfl
theorem setup_some {K : PySem.W.Frag} {F : Fr} {B H : Hp} {σ : St} {ρ : Env} (L : Lv K F ρ σ B H) : ∀ {j : Nat} {vs : List V} {avs : List AV} {ds : List D}, AOks K B σ vs avs → setup ρ (some j) avs = some ds →
    ∃ i s a, slotOf (some j) avs = some i ∧ ρ[i]? = some s ∧ flat s = true ∧ σ[i]? = some (some (.ref a)) ∧ Args K B H a (some j) vs ds
  | 0, _, _, _, .s (x := x) (i := i) f r, h => by
    have h' : (contS ρ[i]?).bind (fun d => (setup ρ none _).map (d :: ·)) = some _ := h
    cases q : contS ρ[i]? with
    | none => rw [q] at h'; cases h'
    | some d =>
      rw [q] at h'
      have h2 : (setup ρ none _).map (d :: ·) = some _ := h'
      cases q2 : setup ρ none _ with
      | none => rw [q2] at h2; cases h2
      | some ds =>
        rw [q2] at h2; injection h2 with h2; subst h2
        cases q3 : ρ[i]? with
        | none => rw [q3] at q; cases q
        | some s =>
          rw [q3] at q
          have ho : flat s = true ∧ s.dat = d := by
            cases s with
            | ow d' => injection q with q; exact ⟨rfl, q⟩
            | io d' => injection q with q; exact ⟨rfl, q⟩
            | un => cases q
            | fz d' => cases q
            | dp _ d' => cases q
          obtain ⟨a, e1, w, g⟩ := L.ow i s q3 ho.1
          rw [e1] at f
          injection f with f; injection f with f; subst f
          rw [ho.2] at w
          exact ⟨i, s, a, rfl, q3, ho.1, e1, .io w (setup_none r q2)⟩
  | j + 1, _, _, _, .v (d := d) f r, h => by
    have h' : (setup ρ (some j) _).map (d :: ·) = some _ := h
    cases q : setup ρ (some j) _ with
    | none => rw [q] at h'; cases h'
    | some ds =>
      rw [q] at h'; injection h' with h'; subst h'
      obtain ⟨i, s, a, h1, h2, h3, h4, h5⟩ := setup_some L r q
      exact ⟨i, s, a, h1, h2, h3, h4, .fzS f h5⟩
  | 0, _, _, _, .nil, h => by cases (show (none : Option (List D)) = some _ from h)
  | 0, _, _, _, .v _ _, h => by cases (show (none : Option (List D)) = some _ from h)
  | _ + 1, _, _, _, .nil, h => by cases (show (none : Option (List D)) = some _ from h)
  | _ + 1, _, _, _, .s _ _, h => by cases (show (none : Option (List D)) = some _ from h)
theorem call_sp {F : Fr} {ρ : Env} {σ : St} {B H : Hp} {Q : VK} {m : Option Nat} {g : List D → Rf} {n : Nat} {avs : List AV} {vs : List V} (L : Lv X.K F ρ σ B H) (fs : AOks X.K B σ vs avs) (hn : vs.length = n)
    (P : Post X W F σ B ((match setup ρ m avs with
      | none => Rs.fail
      | some ds => match g ds with
        | .ok d o out => if o.ok = true then .ok (d, o) (match slotOf m avs with | none => ρ | some i => ρ.set i (reslot ρ[i]? out)) else .fail
        | .rz c => .rz c (match slotOf m avs with | none => ρ | some i => ρ.set i .un)
        | .fail => .fail) : Rs (D × Ob)) (fun p ρ' B' H' => ∀ v, VO X.K F ρ' σ B' H' v p.1 p.2 → Q v H')) : spF X.K X.mg n m g vs H Q (WE W σ) := by
  cases q : setup ρ m avs with
  | none => rw [q] at P; exact P.elim
  | some ds =>
    rw [q] at P
    cases m with
    | none =>
      rw [slotOf_none] at P
      refine ⟨B, ds, 0, L.ex, setup_none fs q, hn, ?_⟩
      have hA : ∀ b, ioA none 0 b → F.A b ∨ F.H0 b = none := fun b z => absurd rfl z.1
      have hO : ∀ b, ioA none 0 b → ¬ OwS X.K B H ρ σ b := fun b z => absurd rfl z.1
      cases q2 : g ds with
      | ok d o out =>
        simp only [q2] at P ⊢
        intro v B' H' cr _ rv
        have L' := L.callN cr hA hO
        have no : ∀ {p : Addr}, H p = none → ¬ OwS X.K B' H' ρ σ p := fun {p} n0 z => (L.hidOw (z.back L cr.exB (cr.keeps L hO))).2.ne n0
        split at P
        · rename_i ok
          refine P B' H' cr.exB L' v ?_
          cases o with
          | ff => exact rv
          | tt =>
            obtain ⟨p, e, w, n0⟩ := rv
            exact ⟨p, e, w, .inr (L.free n0), no n0⟩
          | dp mk =>
            obtain ⟨S, t, nd, n0⟩ := rv
            exact ⟨S, t, nd, fun p hp => ⟨.inr (L.free (n0 p hp)), no (n0 p hp)⟩⟩
          | al => cases ok
        · exact P.elim
      | rz c =>
        simp only [q2] at P ⊢
        exact fun B' H' cr => P B' H' cr.exB (L.callN cr hA hO)
      | fail => simp only [q2] at P; exact P.elim
    | some j =>
      obtain ⟨i, s, a, hsl, hs, ho, hsig, ar⟩ := setup_some L fs q
      rw [hsl] at P
      refine ⟨B, ds, a, L.ex, ar, hn, ?_⟩
      obtain ⟨v0, S0, q', f0, g0, no0, L1⟩ := L.take hs (flat_owned ho)
      rw [hsig] at q'; injection q' with q'; injection q' with q'; subst q'
      obtain ⟨w0, rfl⟩ := f0.one ho
      have g0 := g0 a (by simp)
      have na := no0 a (by simp)
      have hA : ∀ b, ioA (some j) a b → F.A b ∨ F.H0 b = none := fun b z => by rw [z.2]; exact g0
      have hO : ∀ b, ioA (some j) a b → ¬ OwS X.K B H (ρ.set i .un) σ b := fun b z => by rw [z.2]; exact na
      cases q2 : g ds with
      | ok d o out =>
        simp only [q2] at P ⊢
        intro v B' H' cr wo rv
        have L2 := L1.callN cr hA hO
        have bk : ∀ {p : Addr}, OwS X.K B' H' (ρ.set i .un) σ p → OwS X.K B H (ρ.set i .un) σ p := fun {p} z => z.back L1 cr.exB (cr.keeps L1 hO)
        have ht : flat (reslot ρ[i]? out) = true ∧ (reslot ρ[i]? out).dat = out := by
          rw [hs]
          cases s with
          | ow d' => exact ⟨rfl, rfl⟩
          | io d' => exact ⟨rfl, rfl⟩
          | un => cases ho
          | fz d' => cases ho
          | dp _ d' => cases ho
        have L3 := L2.own (i := i) (t := reslot ρ[i]? out) (v := .ref a) (S := [a]) hsig (.mk (by rw [ht.2]; exact wo (by simp)) ht.1) (by simpa using g0) (fun b hb h => by
              rw [List.set_set] at h
              rw [List.mem_singleton.mp hb] at h
              exact na (bk h)) (fun d' z => by
            rw [hs] at z
            cases s with
            | ow d' => cases z
            | io d'' =>
              obtain ⟨b, p1, p2⟩ := L.io i d'' hs
              rw [hsig] at p2
              obtain rfl : a = b := by injection p2 with z; injection z with z; injection z
              exact ⟨a, rfl, p1⟩
            | un => cases ho
            | fz d' => cases ho
            | dp _ d' => cases ho)
        rw [List.set_set] at L3
        have no : ∀ {p : Addr}, H p = none → ¬ OwS X.K B' H' (ρ.set i (reslot ρ[i]? out)) σ p := fun {p} n0 ⟨j', s', v', S', e1, q1, f1, m1⟩ => by
          rcases get_set e1 with ⟨rfl, z, l⟩ | ⟨n, e1⟩
          · rw [hsig] at q1; injection q1 with q1; injection q1 with q1; subst q1
            rw [z] at f1
            obtain ⟨_, rfl⟩ := f1.one ht.1
            rw [List.mem_singleton.mp m1] at n0
            exact w0.there.ne n0
          · exact (L1.hidOw (bk ⟨j', s', v', S', by rw [List.getElem?_set_ne (Ne.symm n)]; exact e1, q1, f1, m1⟩)).2.ne n0
        split at P
        · rename_i ok
          refine P B' H' cr.exB L3 v ?_
          cases o with
          | ff => exact rv
          | tt =>
            obtain ⟨p, e, w, n0⟩ := rv
            exact ⟨p, e, w, .inr (L.free n0), no n0⟩
          | dp mk =>
            obtain ⟨S, t, nd, n0⟩ := rv
            exact ⟨S, t, nd, fun p hp => ⟨.inr (L.free (n0 p hp)), no (n0 p hp)⟩⟩
          | al => cases ok
        · exact P.elim
      | rz c =>
        simp only [q2] at P ⊢
        exact fun B' H' cr => P B' H' cr.exB (L1.callN cr hA hO)
      | fail => simp only [q2] at P; exact P.elim
theorem aoks_len {K : PySem.W.Frag} {B : Hp} {σ : St} : ∀ {vs : List V} {avs : List AV}, AOks K B σ vs avs → vs.length = avs.length
  | _, _, .nil => rfl
  | _, _, .v _ r => by rw [List.length_cons, List.length_cons, aoks_len r]
  | _, _, .s _ r => by rw [List.length_cons, List.length_cons, aoks_len r]
def mCallN (n : Nat) (m : Option Nat) (g : List D → Rf) (f : M (List AV)) : M (D × Ob) := mCallF m g (M.bind f fun avs => M.opt (if avs.length = n then some avs else none))
theorem eo_call {x : Str} {k n : Nat} {f : Addr} {fd : FuncData} {ps : List Str} {m : Option Nat} {g : List D → Rf} {p : Pos} {fa : M (List AV)} (G : FnG X.prog X.w X.K X.mg X.base k f fd ps (spF X.K X.mg n m g)) (gd : Quiet X.prog X.base X.A) (hr : Room k X.A) (tk : Takes X W)
    (hm : X.mg x = some (.ref f)) (hk : PySem.W.keepIn X.K (.ref f) = true) (hb : Binds X.K fd ps []) (ha : EX X W (e :: es) fa) (hg : Gl X x := by rfl) (hdb : (x == ("__debug__" : Str)) = false := by decide)
    (he : starEach (e :: es) X.env = (false, eval e X.env) :: starEach es X.env := by exact star_un rfl) (hpl : (backTo pos (starEach es X.env)).any (·.1) = false := by rfl) : EO X W (.Call (.Name x p) (e :: es) [] pos) (mCallN n m g fa) := by
  intro F ρ σ B H Q L P
  refine PE.we (pe_callG G gd hr hg hm hk hb (fun σ => passAt tk σ) pa_wa hdb he hpl) ?_
  have P0 := Post.bind P
  refine ha F ρ σ B H _ L ((Post.bind P0).imp fun avs ρ1 B1 H1 e1 L1 P1 vs fs => ?_)
  obtain ⟨avs', h1, h2⟩ := P1.opt
  split at h1
  · rename_i hl
    injection h1 with h1; subst h1
    exact call_sp L1 fs (by rw [aoks_len fs]; exact hl) (h2 B1 H1 (Ex.refl _) L1)
  · cases h1
end
end Dt
namespace Dt
open PySem PySem.Spec PyProof.Rows L2
section
variable {X : Cx} {W : WX} {e a b c : Expr} {pos : Pos} {K : PySem.W.Frag}
def dAbs : List D → Option D
  | [.int i] => some (.int (if i < 0 then -i else i))
  | _ => none
theorem cd_abs : CallD K (fun xs H Q => ∃ i, xs = [.int i] ∧ Q (.int (if i < 0 then -i else i)) H) dAbs := by
  intro xs ds d B H Q ex fs h g
  unfold dAbs at h
  split at h
  · cases fs with
    | cons f fs => cases fs; cases f; injection h with h; subst h; exact ⟨_, rfl, g.1 _ (.int _)⟩
  · cases h
def dLen : List D → Option D
  | [.lst xs] => some (.int xs.length)
  | [.tup xs] => some (.int xs.length)
  | [.scr xs] => some (.int xs.length)
  | [.str x] => if tooLong x.length = true then none else some (.int x.length)
  | _ => none
theorem cd_len : CallD K (fun xs H Q => ∃ x n, xs = [x] ∧ LenV K x H n ∧ Q (.int n) H) dLen := by
  intro xs ds d B H Q ex fs h g
  unfold dLen at h
  split at h
  · cases fs with
    | cons f fs =>
      cases fs
      cases f with
      | @lst l xs ds hl fs =>
        injection h with h; subst h
        exact ⟨_, xs.length, rfl, .inl ⟨xs, .inl (.inl (ex _ _ hl)), rfl⟩, by rw [fs.len]; exact g.1 _ (.int _)⟩
  · cases fs with
    | cons f fs =>
      cases fs
      cases f with
      | @tup l xs ds hl fs =>
        injection h with h; subst h
        exact ⟨_, xs.length, rfl, .inr ⟨xs, ex.st hl, rfl⟩, by rw [fs.len]; exact g.1 _ (.int _)⟩
  · cases fs with
    | cons f fs =>
      cases fs
      cases f with
      | @scr l ns hl =>
        injection h with h; subst h
        exact ⟨_, (List.map V.int _).length, rfl, .inl ⟨_, ex.sl hl, rfl⟩, by rw [List.length_map]; exact g.1 _ (.int _)⟩
  · cases fs with
    | cons f fs =>
      cases fs
      cases f
      split at h
      · cases h
      · rename_i hz
        injection h with h; subst h
        exact ⟨_, _, rfl, ⟨notLong hz, rfl⟩, g.1 _ (.int _)⟩
  · cases h
variable {es : List Expr} {p : Pos} {fa : M (List D)} {f1 : M D}
theorem ev_abs (hm : X.mg "abs" = none) (ha : EA X W [a] fa) (hg : Gl X "abs" := by rfl) (he : starEach (a :: []) X.env = (false, eval a X.env) :: starEach [] X.env := by rfl) : EV X W (.Call (.Name "abs" p) [a] [] pos) (mCall dAbs fa) := ev_callB call_abs cd_abs hg hm (by decide +kernel) ha (by decide) (by decide) he
theorem ev_len (hm : X.mg "len" = none) (ha : EA X W [a] fa) (hg : Gl X "len" := by rfl) (he : starEach (a :: []) X.env = (false, eval a X.env) :: starEach [] X.env := by rfl) : EV X W (.Call (.Name "len" p) [a] [] pos) (mCall dLen fa) := ev_callB call_len cd_len hg hm PySem.boot_len ha (by decide) (by decide) he
def tyD : D → String
  | .non => "NoneType"
  | .bl _ => "bool"
  | .int _ => "int"
  | .str _ => "str"
  | .lst _ => "list"
  | .tup _ => "tuple"
  | .scr _ => "list"
  | .dic _ _ => "dict"
  | .dct _ _ => "dict"
  | .ins _ _ _ => "dict"
  | .obj _ => "object"
  | .key _ => "tuple"
def isO : D → Bool
  | .obj _ => true
  | .dct _ _ => true
  | .ins _ _ _ => true
  | _ => false
def dIsi (T : String) (d : D) : Option D := cond (isO d) none ((kitB (tyD d) T).map D.bl)
def mIsi (T : String) (f : M D) : M D := M.bind f fun d => M.opt (dIsi T d)
def chk (i : Nat) : M Unit := fun ρ => match ρ[i]? with
  | some (.ow _) => .ok () ρ
  | some (.io _) => .ok () ρ
  | some (.fz _) => .ok () ρ
  | _ => .fail
theorem Lv.chk {α : Type} {F : Fr} {ρ : Env} {σ : St} {B H : Hp} {i : Nat} (L : Lv K F ρ σ B H) (h : Dt.chk i ρ ≠ .fail) : Dt.chk i ρ = .ok () ρ ∧ ∃ v, σ[i]? = some (some v) := by
  unfold Dt.chk at h ⊢
  split at h
  · rename_i d q
    obtain ⟨a, e1, _⟩ := L.ow i _ q rfl
    exact ⟨by simp only [q], _, e1⟩
  · rename_i d q
    obtain ⟨a, e1, _⟩ := L.ow i _ q rfl
    exact ⟨by simp only [q], _, e1⟩
  · rename_i d q
    obtain ⟨v, e1, _⟩ := L.fz i _ q
    exact ⟨by simp only [q], _, e1⟩
  · exact absurd rfl h
def mPutAt (i : Nat) (fe fk : M D) : M Fl := M.bind fe fun d => M.bind (chk i) fun _ => M.bind fk fun k ρ => match ρ[i]?, k with
  | some (.ow (.lst ds)), .int z => match ixN ds.length z with
    | some j => .ok .nx (ρ.set i (.ow (.lst (ds.set j d))))
    | none => .fail
  | some (.io (.lst ds)), .int z => match ixN ds.length z with
    | some j => .ok .nx (ρ.set i (.io (.lst (ds.set j d))))
    | none => .fail
  | _, _ => .fail
theorem Lv.setAt {F : Fr} {ρ : Env} {σ : St} {B H : Hp} {i : Nat} {s : Slot} {ds ds' : List D} (L : Lv K F ρ σ B H) (e : ρ[i]? = some s) (ho : flat s = true) (hd : s.dat = .lst ds) :
    ∃ a vs, σ[i]? = some (some (V.ref a)) ∧ H a = some (.lst vs) ∧ Fzs K B vs ds ∧ ∀ vs' ds', Fzs K B vs' ds' → Lv K F (ρ.set i (reslot ρ[i]? (.lst ds'))) σ B (upd H a (.lst vs')) := by
  obtain ⟨a, e1, w, g⟩ := L.ow i s e ho
  rw [hd] at w
  obtain ⟨n, vs, h1, fs⟩ := w
  refine ⟨a, vs, e1, h1, fs, fun vs' ds' fs' => ?_⟩
  refine L.write e ho e1 ?_ ?_
  · rw [e]
    cases s with
    | ow d => exact .inl ⟨d, rfl, _, rfl⟩
    | io d => exact .inr ⟨d, rfl, _, rfl⟩
    | un => cases ho
    | fz d => cases ho
    | dp _ d => cases ho
  · rw [e]
    cases s with
    | ow d => exact ⟨n, vs', upd_same, fs'⟩
    | io d => exact ⟨n, vs', upd_same, fs'⟩
    | un => cases ho
    | fz d => cases ho
    | dp _ d => cases ho
theorem sv_putAt {i : Nat} {x : Str} {kx : Expr} {px pt : Pos} {fe fk : M D} (he : EV X W e fe) (hk : EV X W kx fk) (hN : X.N[i]? = some x := by rfl) (hv : Vis X.env.scope x := by first | exact Or.inl rfl | exact Or.inr (Or.inl rfl) | exact Or.inr (Or.inr rfl)) (hd : (x == ("__debug__" : Str)) = false := by decide)
    (hcd : (x == ("__classdict__" : Str)) = false := by decide)
    (ha : ∀ v, assign (.Subscript (.Name x px) kx pt) X.env v = (do
      let ov ← holding [v] (eval (.Name x px) X.env)
      let iv ← holding [v, ov] (eval kx X.env)
      standAt pt
      holding [v, ov, iv] (setItem ov iv v)
      release [v, ov, iv] []) := by intro _; rfl)
    (hs : swapsWithSole [.Subscript (.Name x px) kx pt] e pos.line X.env = pure false := by rfl) (hw : swappedStores [.Subscript (.Name x px) kx pt] e X.env = pure none := by rfl)
    (h1 : (assignEach [.Subscript (.Name x px) kx pt] X.env).map (·.2) = [assign (.Subscript (.Name x px) kx pt) X.env] := by rfl) : SV X W (.Assign [.Subscript (.Name x px) kx pt] e pos) (mPutAt i fe fk) := by
  intro F ρ σ B H N L P
  refine PS.ws (ps_asg pe_we (pg_sub (pe_var hN hv hd hcd) pe_we set_list ha) hs hw h1) ?_
  refine he F ρ σ B H _ L ((PostS.bind P).imp fun d ρ1 B1 H1 e1 L1 P1 v fv => ?_)
  have P1' : PostS X W F B1 ((M.bind (chk i) fun _ => M.bind fk fun k ρ => match ρ[i]?, k with
    | some (.ow (.lst ds)), .int z => match ixN ds.length z with
      | some j => .ok .nx (ρ.set i (.ow (.lst (ds.set j d))))
      | none => .fail
    | some (.io (.lst ds)), .int z => match ixN ds.length z with
      | some j => .ok .nx (ρ.set i (.io (.lst (ds.set j d))))
      | none => .fail
    | _, _ => Rs.fail) ρ1) N := P1
  have hne : chk i ρ1 ≠ .fail := fun z => by unfold M.bind at P1'; simp only [z] at P1'; exact P1'.elim
  obtain ⟨hck, vo0, ev0⟩ := L1.chk (α := Unit) hne
  unfold M.bind at P1'
  simp only [hck] at P1'
  have P2 := PostS.bind (σ := σ) P1'
  have go : ∀ (vo : V), σ[i]? = some (some vo) → tVar i σ H1 fun o H1' => we X kx σ H1' fun k H2 => rSetL o k v H2 fun H3 => N.nx σ H3 := by
    intro vo ev
    refine ⟨vo, ev, hk F ρ1 σ B1 H1 _ L1 (P2.imp fun k ρ2 B2 H2 e2 L2 P3 u fu => ?_)⟩
    cases q : ρ2[i]? with
    | none => simp only [q] at P3; exact P3.elim
    | some s =>
      have fin : ∀ {ds : List D} {z : Int} {j : Nat}, flat s = true → s.dat = .lst ds → k = .int z → ixN ds.length z = some j → PostS X W F B2 (.ok .nx (ρ2.set i (reslot ρ2[i]? (.lst (ds.set j d))))) N → rSetL vo u v H2 fun H3 => N.nx σ H3 := by
        intro ds z j ho hdat hk hj P4
        subst hk
        cases fu
        obtain ⟨a, vs, h1, h2, fs, st⟩ := L2.setAt (ds' := ds) q ho hdat
        rw [ev] at h1
        injection h1 with h1; injection h1 with h1; subst h1
        exact ⟨a, vs, z, j, rfl, rfl, h2, by rw [fs.len]; exact hj, P4 σ B2 _ (Ex.refl _) (st _ _ (fs.set j (fv.mono e2)))⟩
      cases s with
      | ow dd =>
        cases dd with
        | lst ds =>
          cases k with
          | int z =>
            simp only [q] at P3
            cases hj : ixN ds.length z with
            | none => simp only [hj] at P3; exact P3.elim
            | some j => simp only [hj] at P3; exact fin rfl rfl rfl hj (by rw [q]; exact P3)
          | _ => simp only [q] at P3; exact P3.elim
        | _ => simp only [q] at P3; exact P3.elim
      | io dd =>
        cases dd with
        | lst ds =>
          cases k with
          | int z =>
            simp only [q] at P3
            cases hj : ixN ds.length z with
            | none => simp only [hj] at P3; exact P3.elim
            | some j => simp only [hj] at P3; exact fin rfl rfl rfl hj (by rw [q]; exact P3)
          | _ => simp only [q] at P3; exact P3.elim
        | _ => simp only [q] at P3; exact P3.elim
      | un => simp only [q] at P3; exact P3.elim
      | fz _ => simp only [q] at P3; exact P3.elim
      | dp _ _ => simp only [q] at P3; exact P3.elim
  exact go vo0 ev0
def contR : Option Slot → Option D
  | some (.ow d) => some d
  | some (.io d) => some d
  | some (.fz d) => some d
  | _ => none
theorem Lv.cont {F : Fr} {ρ : Env} {σ : St} {B H : Hp} {i : Nat} {d : D} {v : V} (L : Lv K F ρ σ B H) (h : contR ρ[i]? = some d) (ev : σ[i]? = some (some v)) : ∃ B2, Ex B B2 ∧ Ex B2 H ∧ Fz K B2 v d ∧ (∀ ds, d = .lst ds → ∃ a vs, v = .ref a ∧ H a = some (.lst vs) ∧ Fzs K B vs ds) := by
  have own : ∀ {s : Slot}, ρ[i]? = some s → flat s = true → s.dat = d → ∃ B2, Ex B B2 ∧ Ex B2 H ∧ Fz K B2 v d ∧ (∀ ds, d = .lst ds → ∃ a vs, v = .ref a ∧ H a = some (.lst vs) ∧ Fzs K B vs ds) := by
    intro s q ho hd
    obtain ⟨a, e1, w, g⟩ := L.ow i s q ho
    rw [ev] at e1; injection e1 with e1; injection e1 with e1; subst e1
    rw [hd] at w
    obtain ⟨o, h1, h2⟩ := w.fz
    refine ⟨_, Ex.new w.hid, fun b u q => ?_, h2, fun ds z => ?_⟩
    · by_cases hb : b = a
      · subst hb; rw [upd_same] at q; rw [h1]; exact q
      · rw [upd_ne hb] at q; exact L.ex b u q
    · subst z
      obtain ⟨_, vs, h3, fs⟩ := w
      exact ⟨a, vs, rfl, h3, fs⟩
  cases q : ρ[i]? with
  | none => rw [q] at h; cases h
  | some s =>
    rw [q] at h
    cases s with
    | un => cases h
    | dp _ _ => cases h
    | ow d' => injection h with h; exact own q rfl h
    | io d' => injection h with h; exact own q rfl h
    | fz d' =>
      injection h with h; subst h
      obtain ⟨v', e1, f⟩ := L.fz i _ q
      rw [ev] at e1; injection e1 with e1; injection e1 with e1; subst e1
      refine ⟨B, Ex.refl _, L.ex, f, fun ds z => ?_⟩
      subst z
      cases f with
      | lst h1 fs => exact ⟨_, _, rfl, L.ex _ _ h1, fs⟩
def dIxL : D → D → Option D
  | .lst ds, .int i => L2.atI ds i
  | _, _ => none
def mPeek (i : Nat) (fk : M D) : M D := M.bind (chk i) fun _ => M.bind fk fun k ρ => match (contR ρ[i]?).bind fun d => dIxL d k with
  | some z => .ok z ρ
  | none => .fail
theorem ev_peek {i : Nat} {x : Str} {kx : Expr} {px : Pos} {fk : M D} (hk : EV X W kx fk) (hN : X.N[i]? = some x := by rfl) (hv : Vis X.env.scope x := by first | exact Or.inl rfl | exact Or.inr (Or.inl rfl) | exact Or.inr (Or.inr rfl)) (hd : (x == ("__debug__" : Str)) = false := by decide)
    (hcd : (x == ("__classdict__" : Str)) = false := by decide) (hs : PlainIx kx := by exact fun _ _ => rfl) : EV X W (.Subscript (.Name x px) kx pos) (mPeek i fk) := by
  intro F ρ σ B H Q L P
  refine PE.we (pe_ix ix_list (pe_var hN hv hd hcd) pe_we hs) ?_
  have P0 : Post X W F σ B ((M.bind (chk i) fun _ => M.bind fk fun k ρ => match (contR ρ[i]?).bind fun d => dIxL d k with
    | some z => .ok z ρ
    | none => Rs.fail) ρ) (fun d _ B' H' => ∀ v, Fz X.K B' v d → Q v H') := P
  have hne : chk i ρ ≠ .fail := fun z => by unfold M.bind at P0; simp only [z] at P0; exact P0.elim
  obtain ⟨hck, vo, ev⟩ := L.chk (α := Unit) hne
  unfold M.bind at P0
  simp only [hck] at P0
  refine ⟨vo, ev, hk F ρ σ B H _ L ((Post.bind P0).imp fun k ρ2 B2 H2 e2 L2 P3 u fu => ?_)⟩
  cases q : contR ρ2[i]? with
  | none => simp only [q, Option.bind_none] at P3; exact P3.elim
  | some d =>
    simp only [q, Option.bind_some] at P3
    cases q2 : dIxL d k with
    | none => simp only [q2] at P3; exact P3.elim
    | some z =>
      simp only [q2] at P3
      obtain ⟨B3, _, _, _, hl⟩ := L2.cont q ev
      unfold dIxL at q2
      split at q2
      · obtain ⟨a, vs, rfl, h1, fs⟩ := hl _ rfl
        cases fu
        obtain ⟨v, h3, h4⟩ := fs.atI q2
        exact ⟨a, vs, _, v, rfl, rfl, .inl (.inl h1), h3, P3 B2 H2 (Ex.refl _) L2 v h4⟩
      · cases q2
def scalD : D → Bool
  | .non => true
  | .bl _ => true
  | .int _ => true
  | .str _ => true
  | _ => false
def mBinL (g : D → D → Option D) (i : Nat) (f2 : M D) : M D := M.bind (chk i) fun _ => M.bind f2 fun y ρ => match (contR ρ[i]?).bind fun d => g d y with
  | some z => if scalD z = true then .ok z ρ else .fail
  | none => .fail
def mLenL (i : Nat) : M D := M.bind (chk i) fun _ ρ => match (contR ρ[i]?).bind fun d => dLen [d] with
  | some z => .ok z ρ
  | none => .fail
end
end Dt
namespace Dt
open PySem PySem.Spec PyProof.Rows L2
abbrev veTail : List Value := [.type "ValueError", .type "Exception", .type "BaseException", .type "object"]
def ExC (K : PySem.W.Frag) (mg : Str → Option Value) (x : Str) : Prop := ∃ C, mg x = some (.ref C) ∧ PySem.W.excIn K C veTail "ValueError.__new__" = true ∧ PySem.W.keepIn K (.ref C) = true ∧
  PySem.W.subIn K (.ref C) (.type "BaseException") = some true ∧ PySem.W.typeIn K (.ref C) = some (.type "type")
theorem sv_raise {X : Cx} {W : WX} {x m : Str} {j : Nat} {p p2 p3 pos : Pos} (hc : X.calm = true) (tk : Takes X W) (T : ExC X.K X.mg x) (hg : Gl X x := by rfl) (hdb : (x == ("__debug__" : Str)) = false := by decide) :
    SV X W (.Raise (some (.Call (.Name x p) [.Constant (.str m) j p2] [] p3)) none pos) (M.raise x) := by
  obtain ⟨C, gC, xC, kC, bC, tC⟩ := T
  intro F ρ σ B H N L P
  refine PS.ws (ps_raise hc tk (pmk_own PySem.F.excBase_ValueError xC gC kC (raises_own bC tC) hg hdb)) ?_
  have h := P σ B H (Ex.refl _) L
  unfold cv at h
  rw [gC] at h
  exact h
def FnIn (K : PySem.W.Frag) (mg : Str → Option Value) (x : Str) (st : Stmt) : Prop := ∃ f fd, Fun K x x st f fd ∧ mg x = some (.ref f)
def Ok (P : Program) (w : World) (K : PySem.W.Frag) (mg : Str → Option Value) (base : Heap) (x : Str) (k n : Nat) (m : Option Nat) (g : List D → Rf) : Prop :=
  ∃ f fd ps, mg x = some (.ref f) ∧ PySem.W.keepIn K (.ref f) = true ∧ Binds K fd ps [] ∧ FnG P w K mg base k f fd ps (spF K mg n m g)
theorem ok_mk {P : Program} {w : World} {K : PySem.W.Frag} {mg : Str → Option Value} {base : Heap} {x : Str} {st : Stmt} {N ps : List Str} {k : Nat} {m : Option Nat} {fb : M Fl} (T : FnIn K mg x st) (S : FnScope N ps (defScope st)) (hps : ps.length ≤ N.length)
    (hb : ∀ (kV doc pm : Value) (an : Option Addr) (cdv ct : Value) (us : List Value), us.length = ps.length → bindArgs (PySem.W.fnOf x x (defArgs st) (defBody st) (defScope st) .none kV doc pm an cdv ct) ⟨us, []⟩ = pure (ps.zip us))
    (hbody : ∀ (f : Addr) (cdv : Value) (A : Around) (outer : List PySem.Env) (s : Shared) (H : Hp) (E : XK), Quiet P base (A.deeper (envOfC x (defScope st) s.heap.objs.size f cdv)) → Room k (A.deeper (envOfC x (defScope st) s.heap.objs.size f cdv)) →
      Takes (cxOf (L2.CX P w) P w K mg base N x (defScope st) f cdv A outer s H E) (fun cls d _ H => E cls d H) →
      PassesOwn (model P w) (A.deeper (envOfC x (defScope st) s.heap.objs.size f cdv)) (envOfC x (defScope st) s.heap.objs.size f cdv) (cxOf (L2.CX P w) P w K mg base N x (defScope st) f cdv A outer s H E).xe →
      SVs (cxOf (L2.CX P w) P w K mg base N x (defScope st) f cdv A outer s H E) (fun cls d _ H => E cls d H) (defBody st) fb) : Ok P w K mg base x (k + 1) ps.length m (runF m N.length fb) := by
  obtain ⟨f, fd, F, hm⟩ := T
  exact ⟨f, fd, ps, hm, F.kp, F.binds hb, fn_def F S hps fun cdv A outer s H E gd hr => hbody f cdv A outer s H E gd hr (takes_of rfl rfl rfl rfl) (passes_of rfl)⟩
theorem eo_fn {X : Cx} {W : WX} {x : Str} {k j n : Nat} {m : Option Nat} {g : List D → Rf} {e : Expr} {es : List Expr} {p pos : Pos} {fa : M (List AV)} (G : Ok X.prog X.w X.K X.mg X.base x k n m g) (gd : Quiet X.prog X.base X.A) (hr : Room j X.A) (tk : Takes X W) (ha : EX X W (e :: es) fa) (hk : k ≤ j := by decide) (hg : Gl X x := by rfl) (hdb : (x == ("__debug__" : Str)) = false := by decide)
    (he : starEach (e :: es) X.env = (false, eval e X.env) :: starEach es X.env := by exact star_un rfl) (hpl : (backTo pos (starEach es X.env)).any (·.1) = false := by rfl) : EO X W (.Call (.Name x p) (e :: es) [] pos) (mCallN n m g fa) := by
  obtain ⟨f, fd, ps, hm, kp, hb, G⟩ := G
  exact eo_call G gd (hr.mono hk) tk hm kp hb ha hg hdb he hpl
end Dt
namespace Dt
open PySem PySem.Spec PyProof.Rows L2
def wipeE (ρ : Env) : List Nat → Env
  | [] => ρ
  | v :: vs => (wipeE ρ vs).set v .un
section
variable {K : PySem.W.Frag} {F : Fr} {ρ ρ' : Env} {σ σ' : St} {B H B' H' : Hp}
end
section
variable {X : Cx} {W : WX}
end
noncomputable instance : DecidableEq Mk := fun a b => Classical.propDecidable (a = b)
section
variable {X : Cx} {W : WX} {elt tg iter : Expr} {ifs : List Expr} {scope : Scope} {own : List (Str × Nat)} {pos : Pos} {is : List Nat} {f : M (List D)} {g : D → Env → Option Env} {t : M Bool} {e : M D}
end
end Dt
namespace Dt
open PySem PySem.Spec PyProof.Rows L2
section
variable {X : Cx} {W : WX} {e a b c : Expr} {pos : Pos} {K : PySem.W.Frag}
def asOI : Option D → Option (Option Int)
  | none => some none
  | some (.int i) => some (some i)
  | some _ => none
def mRevL (f : M D) : M (D × Ob) := M.bind f fun d => M.opt (match d with
  | .lst xs => some (.lst xs.reverse, .tt)
  | _ => none)
variable {tg : Expr}
variable {p : Pos} {fa : M (List D)}
def chkL (i : Nat) : M Unit := fun ρ => match ρ[i]? with
  | some (.ow (.lst _)) => .ok () ρ
  | some (.io (.lst _)) => .ok () ρ
  | _ => .fail
def mUpd (i : Nat) (h : List D → Option (List D)) : M Fl := fun ρ => match ρ[i]? with
  | some (.ow (.lst ds)) => match h ds with
    | some ds' => .ok .nx (ρ.set i (.ow (.lst ds')))
    | none => .fail
  | some (.io (.lst ds)) => match h ds with
    | some ds' => .ok .nx (ρ.set i (.io (.lst ds')))
    | none => .fail
  | _ => .fail
def mAugI (i : Nat) (h : Int → Int → Int) (f : M D) : M Fl := M.bind (chk i) fun _ => M.bind f fun d ρ => match ρ[i]?, d with
  | some (.fz (.int z)), .int y => .ok .nx (ρ.set i (.fz (.int (h z y))))
  | _, _ => .fail
end
end Dt
namespace Dt
open PySem PySem.Spec PyProof.Rows L2
section
variable {X : Cx} {W : WX} {e a b : Expr} {fa : M (List D)} {p pos : Pos} {K : PySem.W.Frag}
end
end Dt
namespace Dt
open PySem PySem.Spec PyProof.Rows L2
section
variable {X : Cx} {W : WX} {e a b kx : Expr} {f1 f2 fe fk : M D} {p p2 pos : Pos} {K : PySem.W.Frag} {F : Fr} {ρ : Env} {σ : St} {B H : Hp} {i : Nat} {x : Str}
def mListRg1 (f1 : M D) : M (D × Ob) := M.bind f1 fun d => M.opt (match d with
  | .int j => if -10000 < j ∧ j < 10000 then some (.lst (rangeD 0 j), .tt) else none
  | _ => none)
def mListRg2 (f1 f2 : M D) : M (D × Ob) := M.bind f1 fun c => M.bind f2 fun d => M.opt (match c, d with
  | .int i, .int j => if (-10000 < i ∧ i < 10000) ∧ (-10000 < j ∧ j < 10000) then some (.lst (rangeD i j), .tt) else none
  | _, _ => none)
def mUpdE (i : Nat) (h : List D → Option (D × List D)) : M D := fun ρ => match ρ[i]? with
  | some (.ow (.lst ds)) => match h ds with
    | some (d, ds') => .ok d (ρ.set i (.ow (.lst ds')))
    | none => .fail
  | some (.io (.lst ds)) => match h ds with
    | some (d, ds') => .ok d (ρ.set i (.io (.lst ds')))
    | none => .fail
  | _ => .fail
def popD (k : D) (ds : List D) : Option (D × List D) := match k with
  | .int z => if ds.length ≤ 10000 then (ixN ds.length z).bind fun j => (ds[j]?).map fun d => (d, ds.eraseIdx j) else none
  | _ => none
def mPopAt (i : Nat) (fk : M D) : M D := M.bind (chkL i) fun _ => M.bind fk fun k => mUpdE i (popD k)
def mExt (i : Nat) (fe : M D) : M Fl := M.bind (chkL i) fun _ => M.bind fe fun d => mUpd i fun ds => match d with
  | .lst es => if ds.length + es.length ≤ 100000 then some (ds ++ es) else none
  | _ => none
def mIns (i : Nat) (fk fe : M D) : M Fl := M.bind (chkL i) fun _ => M.bind fk fun c => M.bind fe fun d => mUpd i fun ds => match c with
  | .int z => if ds.length < 10000 ∧ 0 ≤ z ∧ z < 10000 then some (ds.take z.toNat ++ [d] ++ ds.drop z.toNat) else none
  | _ => none
def getV (k d : D) : Option D := match k with
  | .int z => if 0 ≤ z then dIxL d (.int z) else none
  | _ => none
def mGetV (i : Nat) (k : D) : M D := fun ρ => match (contR ρ[i]?).bind (getV k) with
  | some z => .ok z ρ
  | none => .fail
def augD (h : Int → Int → Int) (c old d : D) (ds : List D) : Option (List D) := match c, old, d with
  | .int z, .int x, .int y => if 0 ≤ z then (ixN ds.length z).map fun j => ds.set j (.int (h x y)) else none
  | _, _, _ => none
def mAugAt (i : Nat) (h : Int → Int → Int) (fk fe : M D) : M Fl := M.bind (chkL i) fun _ => M.bind fk fun c => M.bind (mGetV i c) fun old => M.bind fe fun d => mUpd i (augD h c old d)
def mCatO (f1 f2 : M D) : M (D × Ob) := M.bind f1 fun c => M.bind f2 fun d => M.opt (match c, d with
  | .lst xs, .lst ys => if tooLong (xs.length + ys.length) = true then none else some (.lst (xs ++ ys), .tt)
  | _, _ => none)
def mRepO (f1 f2 : M D) : M (D × Ob) := M.bind f1 fun c => M.bind f2 fun d => M.opt (match c, d with
  | .lst xs, .int k => if k < 10000 ∧ -10000 < k ∧ xs.length ≤ 1000 then some (.lst (List.replicate k.toNat xs).flatten, .tt) else none
  | _, _ => none)
def mIsiL (T : String) (i : Nat) : M D := M.bind (chk i) fun _ ρ => match (contR ρ[i]?).bind (dIsi T) with
  | some z => .ok z ρ
  | none => .fail
end
end Dt
namespace Dt
open PySem L2
def Rs.bnd {α β : Type} (r : Rs α) (g : α → M β) : Rs β := match r with
  | .ok a ρ' => g a ρ'
  | .rz c ρ' => .rz c ρ'
  | .fail => .fail
section
variable {α β : Type} {ρ ρ' : Env} {a : α} {c : Str} {g : α → M β} {f : M α}
@[simp] theorem ok_bnd : (Rs.ok a ρ).bnd g = g a ρ := rfl
@[simp] theorem rz_bnd : (Rs.rz c ρ : Rs α).bnd g = .rz c ρ := rfl
@[simp] theorem fail_bnd : (Rs.fail : Rs α).bnd g = .fail := rfl
@[simp] theorem bind_ap : M.bind f g ρ = (f ρ).bnd g := rfl
@[simp] theorem pure_ap : M.pure a ρ = .ok a ρ := rfl
@[simp] theorem fail_ap : (M.fail : M α) ρ = .fail := rfl
@[simp] theorem opt_some : M.opt (some a) ρ = .ok a ρ := rfl
@[simp] theorem opt_none : (M.opt none : M α) ρ = .fail := rfl
@[simp] theorem raise_ap : (M.raise c : M α) ρ = .rz c ρ := rfl
end
section
variable {i j : Nat} {ρ : Env} {d x y : D} {f f1 f2 f3 : M D} {fs : M (List D)} {fo : M (D × Ob)} {t u : M Bool} {a b : M Fl} {g : D → D → Option D} {g1 : D → Option D} {gs : List D → Option D} {k : Bool}
@[simp] theorem var_ap : mVar i ρ = match ρ[i]? with
  | some (.fz d) => .ok d ρ
  | some (.ow d) => .ok d (ρ.set i (.fz d))
  | some (.dp _ d) => .ok d (ρ.set i (.fz d))
  | _ => .fail := rfl
@[simp] theorem bin_ap : mBin g f1 f2 ρ = (f1 ρ).bnd fun x => M.bind f2 fun y => M.opt (g x y) := rfl
@[simp] theorem un_ap : mUn g1 f ρ = (f ρ).bnd fun x => M.opt (g1 x) := rfl
@[simp] theorem test_ap : mTest f ρ = (f ρ).bnd fun d => M.opt (asBl d) := rfl
@[simp] theorem asBl_bl : asBl (.bl k) = some k := rfl
@[simp] theorem nil_ap : mNil ρ = .ok [] ρ := rfl
@[simp] theorem cons_ap : mCons f fs ρ = (f ρ).bnd fun x => M.bind fs fun xs => M.pure (x :: xs) := rfl
@[simp] theorem call_ap : mCall gs fs ρ = (fs ρ).bnd fun xs => M.opt (gs xs) := rfl
@[simp] theorem tup_ap : mTup fs ρ = (fs ρ).bnd fun xs => M.opt (if xs.length ≤ 10000 then some (.tup xs) else none) := rfl
@[simp] theorem lst_ap : mLst fs ρ = (fs ρ).bnd fun xs => M.opt (if xs.length ≤ 10000 then some (.lst xs, .tt) else none) := rfl
@[simp] theorem mfz_ap : mFz fo ρ = (fo ρ).bnd fun p => M.opt (if p.2.ok = true then some p.1 else none) := rfl
@[simp] theorem mof_ap : mOf f ρ = (f ρ).bnd fun d => M.pure (d, .ff) := rfl
@[simp] theorem move_ap : mMove i ρ = match ρ[i]? with
  | some (.fz d) => .ok (d, .ff) ρ
  | some (.ow d) => .ok (d, .tt) (ρ.set i .un)
  | some (.dp m d) => .ok (d, .dp m) (ρ.set i .un)
  | _ => .fail := rfl
@[simp] theorem and_ap : mAnd t u ρ = (t ρ).bnd fun k => match k with
  | true => u
  | false => M.pure false := rfl
@[simp] theorem or_ap : mOr t u ρ = (t ρ).bnd fun k => match k with
  | true => M.pure true
  | false => u := rfl
@[simp] theorem not_ap : mNot t ρ = (t ρ).bnd fun k => M.pure (!k) := rfl
@[simp] theorem andV_ap : mAndV f1 f2 ρ = (f1 ρ).bnd fun d => match d with
  | .bl true => f2
  | .bl false => M.pure (.bl false)
  | _ => M.fail := rfl
@[simp] theorem orV_ap : mOrV f1 f2 ρ = (f1 ρ).bnd fun d => match d with
  | .bl true => M.pure (.bl true)
  | .bl false => f2
  | _ => M.fail := rfl
@[simp] theorem notV_ap : mNotV f ρ = (f ρ).bnd fun d => match d with
  | .bl k => M.pure (.bl (!k))
  | _ => M.fail := rfl
@[simp] theorem mif_ap {α : Type} {a b : M α} : mIf t a b ρ = (t ρ).bnd fun k => match k with
  | true => a
  | false => b := rfl
@[simp] theorem seq_ap : mSeq a b ρ = (a ρ).bnd fun fl => match fl with
  | .nx => b
  | .bk => M.pure .bk
  | .ct => M.pure .ct
  | .rt d o => M.pure (.rt d o) := rfl
@[simp] theorem mnx_ap : mNx ρ = .ok .nx ρ := rfl
@[simp] theorem set_ap : mSet i fo ρ = (fo ρ).bnd (mPut i) := rfl
@[simp] theorem put_ap {p : D × Ob} : mPut i p ρ = match Slot.of p with
  | some s => .ok .nx (ρ.set i s)
  | none => .fail := rfl
@[simp] theorem ok_ff : Ob.ok .ff = true := rfl
@[simp] theorem ok_tt : Ob.ok .tt = true := rfl
@[simp] theorem ok_dp {m : Mk} : Ob.ok (.dp m) = true := rfl
@[simp] theorem sof_ff : Slot.of (d, .ff) = some (.fz d) := rfl
@[simp] theorem sof_tt : Slot.of (d, .tt) = some (.ow d) := rfl
@[simp] theorem sof_dp {m : Mk} : Slot.of (d, .dp m) = some (.dp m d) := rfl
@[simp] theorem ret_ap : mRet fo ρ = (fo ρ).bnd fun p => M.pure (.rt p.1 p.2) := rfl
@[simp] theorem drop_ap : mDrop f ρ = (f ρ).bnd fun _ => mNx := rfl
@[simp] theorem isi_ap {T : String} : mIsi T f ρ = (f ρ).bnd fun d => M.opt (dIsi T d) := rfl
@[simp] theorem par_ap : mPar i j fs ρ = (fs ρ).bnd fun ds ρ => match ds with
  | [x, y] => .ok .nx ((ρ.set i (.fz x)).set j (.fz y))
  | _ => .fail := rfl
@[simp] theorem asg_ap {h : D → Env → Option Env} : mAsg h f ρ = (f ρ).bnd fun d ρ => match h d ρ with
  | some ρ' => .ok .nx ρ'
  | none => .fail := rfl
@[simp] theorem gN_ap : gN i d ρ = some (ρ.set i (.fz d)) := rfl
@[simp] theorem gsN_ap : gsN [] ρ = some ρ := rfl
@[simp] theorem gsC_ap {h : D → Env → Option Env} {hs : List D → Env → Option Env} {r : List D} : gsC h hs (d :: r) ρ = (h d ρ).bind (hs r) := rfl
@[simp] theorem gT_ap {n : Nat} {hs : List D → Env → Option Env} {ds : List D} : gT n hs (.tup ds) ρ = if ds.length = n then hs ds ρ else none := rfl
@[simp] theorem for_ap {h : D → Env → Option Env} : mFor fs h b ρ = (fs ρ).bnd (mForL h b) := rfl
@[simp] theorem forL_nil {h : D → Env → Option Env} : mForL h b [] ρ = .ok .nx ρ := rfl
@[simp] theorem range1_ap : mRange1 fs ρ = (fs ρ).bnd fun ds => M.opt (match ds with
  | [.int j] => if -100000000 < j ∧ j < 100000000 then some (rangeD 0 j) else none
  | _ => none) := rfl
@[simp] theorem range2_ap : mRange2 fs ρ = (fs ρ).bnd fun ds => M.opt (match ds with
  | [.int i, .int j] => if (-100000000 < i ∧ i < 100000000) ∧ (-100000000 < j ∧ j < 100000000) then some (rangeD i j) else none
  | _ => none) := rfl
@[simp] theorem iter_ap : mIter f ρ = (f ρ).bnd fun d => M.opt (match d with
  | .lst ds => some ds
  | _ => none) := rfl
@[simp] theorem chk_ap : chk i ρ = match ρ[i]? with
  | some (.ow _) => .ok () ρ
  | some (.io _) => .ok () ρ
  | some (.fz _) => .ok () ρ
  | _ => .fail := rfl
@[simp] theorem peek_ap : mPeek i f ρ = (chk i ρ).bnd fun _ => M.bind f fun k ρ => match (contR ρ[i]?).bind fun d => dIxL d k with
  | some z => .ok z ρ
  | none => .fail := rfl
@[simp] theorem putAt_ap : mPutAt i f1 f2 ρ = (f1 ρ).bnd fun d => M.bind (chk i) fun _ => M.bind f2 fun k ρ => match ρ[i]?, k with
  | some (.ow (.lst ds)), .int z => match ixN ds.length z with
    | some j => .ok .nx (ρ.set i (.ow (.lst (ds.set j d))))
    | none => .fail
  | some (.io (.lst ds)), .int z => match ixN ds.length z with
    | some j => .ok .nx (ρ.set i (.io (.lst (ds.set j d))))
    | none => .fail
  | _, _ => .fail := rfl
variable {fx : M (List AV)} {m : Option Nat} {n : Nat} {h : List D → Rf} {av : AV} {avs : List AV} {ds : List D} {sl : Option Slot}
@[simp] theorem xNil_ap : xNil ρ = .ok [] ρ := rfl
@[simp] theorem xV_ap : xV f fx ρ = (f ρ).bnd fun x => M.bind fx fun xs => M.pure (.v x :: xs) := rfl
@[simp] theorem xS_ap : xS i fx ρ = ((match ρ[i]? with
  | some (.ow _) => Rs.ok () ρ
  | some (.io _) => .ok () ρ
  | _ => .fail) : Rs Unit).bnd fun _ => M.bind fx fun xs => M.pure (.s i :: xs) := rfl
@[simp] theorem callN_ap : mCallN n m h fx ρ = (fx ρ).bnd fun avs ρ => (if avs.length = n then match setup ρ m avs with
  | none => .fail
  | some ds => match h ds with
    | .ok d o out => if o.ok = true then .ok (d, o) (match slotOf m avs with
      | none => ρ
      | some i => ρ.set i (reslot ρ[i]? out)) else .fail
    | .rz c => .rz c (match slotOf m avs with
      | none => ρ
      | some i => ρ.set i .un)
    | .fail => .fail else .fail) := by
  unfold mCallN mCallF
  rw [bind_ap, bind_ap]
  cases q : fx ρ with
  | ok avs ρ1 =>
    simp only [ok_bnd]
    split
    · simp only [opt_some, ok_bnd] <;> rfl
    · rfl
  | rz c ρ1 => rfl
  | fail => rfl
@[simp] theorem setup_nil : setup ρ none [] = some [] := rfl
@[simp] theorem setup_v : setup ρ none (.v d :: avs) = (setup ρ none avs).map (d :: ·) := rfl
@[simp] theorem setup_s : setup ρ (some 0) (.s i :: avs) = (contS ρ[i]?).bind fun d => (setup ρ none avs).map (d :: ·) := rfl
@[simp] theorem setup_vs : setup ρ (some (j + 1)) (.v d :: avs) = (setup ρ (some j) avs).map (d :: ·) := rfl
@[simp] theorem slotOf_n : slotOf none avs = none := slotOf_none avs
@[simp] theorem slotOf_s : slotOf (some 0) (.s i :: avs) = some i := rfl
@[simp] theorem slotOf_v : slotOf (some (j + 1)) (av :: avs) = slotOf (some j) avs := by cases av <;> rfl
@[simp] theorem contS_ow : contS (some (.ow d)) = some d := rfl
@[simp] theorem contS_io : contS (some (.io d)) = some d := rfl
@[simp] theorem contR_ow : contR (some (.ow d)) = some d := rfl
@[simp] theorem contR_io : contR (some (.io d)) = some d := rfl
@[simp] theorem contR_fz : contR (some (.fz d)) = some d := rfl
@[simp] theorem reslot_ow : reslot (some (.ow x)) d = .ow d := rfl
@[simp] theorem reslot_io : reslot (some (.io x)) d = .io d := rfl
@[simp] theorem initS_nil : initS none [] = [] := rfl
@[simp] theorem initS_n : initS none (d :: ds) = .fz d :: initS none ds := rfl
@[simp] theorem initS_0 : initS (some 0) (d :: ds) = .io d :: initS none ds := rfl
@[simp] theorem initS_s : initS (some (j + 1)) (d :: ds) = .fz d :: initS (some j) ds := rfl
@[simp] theorem initE_ap : initE m n ds = initS m ds ++ List.replicate (n - ds.length) .un := rfl
@[simp] theorem fin_n {o : Ob} : fin none d o ρ = .ok d o .non := rfl
@[simp] theorem fin_s {o : Ob} : fin (some j) d o ρ = match ρ[j]? with
    | some (.io out) => .ok d o out
    | _ => .fail := rfl
variable {p q : Int} {xs ys : List D} {s1 s2 : Str} {k1 k2 : Bool}
@[simp] theorem dAdd_i : dAdd (.int p) (.int q) = some (.int (p + q)) := rfl
@[simp] theorem dSub_i : dSub (.int p) (.int q) = some (.int (p - q)) := rfl
@[simp] theorem dMul_i : dMul (.int p) (.int q) = if mulOk p q = true then some (.int (p * q)) else none := rfl
@[simp] theorem dDiv_i : dDiv (.int p) (.int q) = if divOk p q = true then some (.int (p.fdiv q)) else none := rfl
@[simp] theorem dMod_i : dMod (.int p) (.int q) = if modOk p q = true then some (.int (p.fmod q)) else none := rfl
@[simp] theorem dPow_i : dPow (.int p) (.int q) = if powOk p q = true then some (.int (p ^ q.toNat)) else none := rfl
@[simp] theorem dLt_i : dLt (.int p) (.int q) = some (.bl (decide (p < q))) := rfl
@[simp] theorem dLe_i : dLe (.int p) (.int q) = some (.bl (decide (p ≤ q))) := rfl
@[simp] theorem dGt_i : dGt (.int p) (.int q) = some (.bl (decide (q < p))) := rfl
@[simp] theorem dGe_i : dGe (.int p) (.int q) = some (.bl (decide (q ≤ p))) := rfl
@[simp] theorem dNeg_i : dNeg (.int p) = some (.int (-p)) := rfl
@[simp] theorem dEq_i : dEq (.int p) (.int q) = some (.bl (decide (p = q))) := by rw [← Bool.beq_eq_decide_eq]; rfl
@[simp] theorem dNe_i : dNe (.int p) (.int q) = some (.bl (!decide (p = q))) := by rw [← Bool.beq_eq_decide_eq]; rfl
@[simp] theorem dEq_s : dEq (.str s1) (.str s2) = some (.bl (decide (s1 = s2))) := by rw [← Bool.beq_eq_decide_eq]; rfl
@[simp] theorem dNe_s : dNe (.str s1) (.str s2) = some (.bl (!decide (s1 = s2))) := by rw [← Bool.beq_eq_decide_eq]; rfl
@[simp] theorem dIs_b : dIs (.bl k1) (.bl k2) = some (.bl (decide (k1 = k2))) := rfl
@[simp] theorem dIsNot_b : dIsNot (.bl k1) (.bl k2) = some (.bl (!decide (k1 = k2))) := rfl
@[simp] theorem dAbs_i : dAbs [.int p] = some (.int ((p.natAbs : Nat) : Int)) := by
  show some (D.int (if p < 0 then -p else p)) = _
  congr 2
  split <;> omega
@[simp] theorem dLen_l : dLen [.lst xs] = some (.int xs.length) := rfl
@[simp] theorem dLen_t : dLen [.tup xs] = some (.int xs.length) := rfl
@[simp] theorem dLen_c {ns : List Int} : dLen [.scr ns] = some (.int ns.length) := rfl
@[simp] theorem dIx_l : dIx (.lst xs) (.int p) = L2.atI xs p := rfl
@[simp] theorem dIx_t : dIx (.tup xs) (.int p) = L2.atI xs p := rfl
@[simp] theorem dIx_c {ns : List Int} : dIx (.scr ns) (.int p) = (L2.atI ns p).map D.int := rfl
@[simp] theorem dIxL_l : dIxL (.lst xs) (.int p) = L2.atI xs p := rfl
@[simp] theorem at0 {α : Type} {x : α} {xs : List α} : L2.atI (x :: xs) 0 = some x := by
  unfold L2.atI ixN
  simp only [List.length_cons]
  rw [if_pos (by decide), if_pos (by omega)]
  rfl
@[simp] theorem at1 {α : Type} {x y : α} {xs : List α} : L2.atI (x :: y :: xs) 1 = some y := by
  unfold L2.atI ixN
  simp only [List.length_cons]
  rw [if_pos (by decide), if_pos (by omega)]
  rfl
@[simp] theorem ix0 {n : Nat} : ixN (n + 1) 0 = some 0 := by
  unfold ixN
  rw [if_pos (by decide), if_pos (by omega)]; rfl
@[simp] theorem ix1 {n : Nat} : ixN (n + 2) 1 = some 1 := by
  unfold ixN
  rw [if_pos (by decide), if_pos (by omega)]; rfl
theorem mulOk_of {p q : Int} {a b : Nat} (hp : p.natAbs < 2 ^ a) (hq : q.natAbs < 2 ^ b) (h : a + b ≤ 90000000) : mulOk p q = true := by
  unfold mulOk
  rw [decide_eq_true_iff]
  have l : ∀ {n k : Nat}, n < 2 ^ k → n.log2 ≤ k := fun {n k} h => by
    rcases Nat.eq_zero_or_pos n with z | z
    · subst z; simp
    · exact Nat.le_of_lt ((Nat.log2_lt (by omega)).mpr h)
  have h1 := l hp
  have h2 := l hq
  omega
theorem divOk_of {p q : Int} (h0 : q ≠ 0) : divOk p q = true := decide_eq_true h0
@[simp] theorem modOk_of {p q : Int} (h0 : q ≠ 0) : modOk p q = true := by
  unfold modOk
  exact decide_eq_true h0
end
end Dt
namespace Dt
open PySem L2
theorem kit1 : kitB "tuple" "tuple" = some true := by decide +kernel
theorem kit2 : kitB "int" "int" = some true := by decide +kernel
theorem kit3 : kitB "int" "bool" = some false := by decide +kernel
theorem kit4 : kitB "bool" "bool" = some true := by decide +kernel
theorem kit5 : kitB "list" "list" = some true := by decide +kernel
theorem kit6 : kitB "bool" "int" = some true := by decide +kernel
theorem kit7 : kitB "str" "str" = some true := by decide +kernel
section
variable {xs : List D} {i : Int} {k k2 : Bool} {x : Str}
@[simp] theorem isi_tt : dIsi "tuple" (.tup xs) = some (.bl true) := by show (kitB "tuple" "tuple").map D.bl = _; rw [kit1]; rfl
@[simp] theorem isi_ii : dIsi "int" (.int i) = some (.bl true) := by show (kitB "int" "int").map D.bl = _; rw [kit2]; rfl
@[simp] theorem isi_ib : dIsi "bool" (.int i) = some (.bl false) := by show (kitB "int" "bool").map D.bl = _; rw [kit3]; rfl
@[simp] theorem isi_bb : dIsi "bool" (.bl k) = some (.bl true) := by show (kitB "bool" "bool").map D.bl = _; rw [kit4]; rfl
@[simp] theorem isi_ll : dIsi "list" (.lst xs) = some (.bl true) := by show (kitB "list" "list").map D.bl = _; rw [kit5]; rfl
@[simp] theorem isi_bi : dIsi "int" (.bl k) = some (.bl true) := by show (kitB "bool" "int").map D.bl = _; rw [kit6]; rfl
@[simp] theorem isi_ss : dIsi "str" (.str x) = some (.bl true) := by show (kitB "str" "str").map D.bl = _; rw [kit7]; rfl
@[simp] theorem dEq_b : dEq (.bl k) (.bl k2) = some (.bl (k == k2)) := by
  cases k <;> cases k2 <;> rfl
@[simp] theorem dNe_b : dNe (.bl k) (.bl k2) = some (.bl (!(k == k2))) := by
  cases k <;> cases k2 <;> rfl
end
end Dt
namespace Dt
open PySem L2
section
variable {i : Nat} {ρ : Env} {f f1 f2 fk fe : M D} {h : Int → Int → Int} {k d old : D} {ds xs : List D} {z x y : Int}
@[simp] theorem listRg1_ap : mListRg1 f ρ = (f ρ).bnd fun d => M.opt (match d with
  | .int j => if -10000 < j ∧ j < 10000 then some (.lst (rangeD 0 j), .tt) else none
  | _ => none) := rfl
@[simp] theorem listRg2_ap : mListRg2 f1 f2 ρ = (f1 ρ).bnd fun c => M.bind f2 fun d => M.opt (match c, d with
  | .int i, .int j => if (-10000 < i ∧ i < 10000) ∧ (-10000 < j ∧ j < 10000) then some (.lst (rangeD i j), .tt) else none
  | _, _ => none) := rfl
@[simp] theorem popAt_ap : mPopAt i fk ρ = (chkL i ρ).bnd fun _ => M.bind fk fun k => mUpdE i (popD k) := rfl
@[simp] theorem updE_ap {g : List D → Option (D × List D)} : mUpdE i g ρ = match ρ[i]? with
  | some (.ow (.lst ds)) => match g ds with
    | some (d, ds') => .ok d (ρ.set i (.ow (.lst ds')))
    | none => .fail
  | some (.io (.lst ds)) => match g ds with
    | some (d, ds') => .ok d (ρ.set i (.io (.lst ds')))
    | none => .fail
  | _ => .fail := rfl
@[simp] theorem ext_ap : mExt i fe ρ = (chkL i ρ).bnd fun _ => M.bind fe fun d => mUpd i fun ds => match d with
  | .lst es => if ds.length + es.length ≤ 100000 then some (ds ++ es) else none
  | _ => none := rfl
@[simp] theorem ins_ap : mIns i fk fe ρ = (chkL i ρ).bnd fun _ => M.bind fk fun c => M.bind fe fun d => mUpd i fun ds => match c with
  | .int z => if ds.length < 10000 ∧ 0 ≤ z ∧ z < 10000 then some (ds.take z.toNat ++ [d] ++ ds.drop z.toNat) else none
  | _ => none := rfl
@[simp] theorem augI_ap : mAugI i h f ρ = (chk i ρ).bnd fun _ => M.bind f fun d ρ => match ρ[i]?, d with
  | some (.fz (.int z)), .int y => .ok .nx (ρ.set i (.fz (.int (h z y))))
  | _, _ => .fail := rfl
@[simp] theorem augAt_ap : mAugAt i h fk fe ρ = (chkL i ρ).bnd fun _ => M.bind fk fun c => M.bind (mGetV i c) fun old => M.bind fe fun d => mUpd i (augD h c old d) := rfl
@[simp] theorem getV_ap : mGetV i k ρ = match (contR ρ[i]?).bind (getV k) with
  | some z => .ok z ρ
  | none => .fail := rfl
@[simp] theorem catO_ap : mCatO f1 f2 ρ = (f1 ρ).bnd fun c => M.bind f2 fun d => M.opt (match c, d with
  | .lst xs, .lst ys => if tooLong (xs.length + ys.length) = true then none else some (.lst (xs ++ ys), .tt)
  | _, _ => none) := rfl
@[simp] theorem repO_ap : mRepO f1 f2 ρ = (f1 ρ).bnd fun c => M.bind f2 fun d => M.opt (match c, d with
  | .lst xs, .int k => if k < 10000 ∧ -10000 < k ∧ xs.length ≤ 1000 then some (.lst (List.replicate k.toNat xs).flatten, .tt) else none
  | _, _ => none) := rfl
@[simp] theorem isiL_ap {T : String} : mIsiL T i ρ = (chk i ρ).bnd fun _ ρ => match (contR ρ[i]?).bind (dIsi T) with
  | some z => .ok z ρ
  | none => .fail := rfl
@[simp] theorem binL_ap {g : D → D → Option D} : mBinL g i f ρ = (chk i ρ).bnd fun _ => M.bind f fun y ρ => match (contR ρ[i]?).bind fun x => g x y with
  | some z => if scalD z = true then .ok z ρ else .fail
  | none => .fail := rfl
@[simp] theorem scal_bl {k : Bool} : scalD (.bl k) = true := rfl
@[simp] theorem lenL_ap : mLenL i ρ = (chk i ρ).bnd fun _ ρ => match (contR ρ[i]?).bind fun d => dLen [d] with
  | some z => .ok z ρ
  | none => .fail := rfl
end
end Dt
namespace Dt
open PySem L2
def kOk : L2.Key → Bool
  | .inl _ => true
  | .inr x => PyData.strOk x
def okD : Nat → D → Bool
  | _, .non => true
  | _, .bl _ => true
  | _, .int _ => true
  | _, .str x => PyData.strOk x
  | 0, _ => false
  | n + 1, .lst xs => xs.all (okD n)
  | n + 1, .tup xs => xs.all (okD n)
  | _ + 1, .scr _ => true
  | _ + 1, .dic _ _ => false
  | _ + 1, .dct _ _ => false
  | _ + 1, .ins _ _ _ => false
  | _ + 1, .obj _ => false
  | _ + 1, .key ks => ks.all kOk
theorem okD_all {n : Nat} (ih : ∀ d, okD n d = true → d.py.canLay0 = true ∧ d.py.depth ≤ n) : ∀ xs : List D, xs.all (okD n) = true → PyData.canLayAll0 (D.pys xs) = true ∧ PyData.depthAll (D.pys xs) ≤ n
  | [], _ => ⟨by simp [D.pys, PyData.canLayAll0], by simp [D.pys, PyData.depthAll]⟩
  | x :: xs, h => by
    rw [List.all_cons, Bool.and_eq_true] at h
    obtain ⟨a1, a2⟩ := ih x h.1
    obtain ⟨b1, b2⟩ := okD_all ih xs h.2
    refine ⟨by simp [D.pys, PyData.canLayAll0, a1, b1], ?_⟩
    simp only [D.pys, PyData.depthAll]
    omega
theorem canLay_ints : ∀ ns : List Int, PyData.canLayAll0 (ns.map PyData.int) = true
  | [] => by simp [PyData.canLayAll0]
  | n :: ns => by simp [PyData.canLayAll0, PyData.canLay0, canLay_ints ns]
theorem depth_ints : ∀ ns : List Int, PyData.depthAll (ns.map PyData.int) = 0
  | [] => by simp [PyData.depthAll]
  | n :: ns => by simp [PyData.depthAll, PyData.depth, depth_ints ns]
theorem canLay_keys : ∀ ks : List L2.Key, ks.all kOk = true → PyData.canLayAll0 (ks.map kPy) = true
  | [], _ => by simp [PyData.canLayAll0]
  | .inl n :: ns, h => by
    rw [List.all_cons, Bool.and_eq_true] at h
    simp [kPy, PyData.canLayAll0, PyData.canLay0, canLay_keys ns h.2]
  | .inr n :: ns, h => by
    rw [List.all_cons, Bool.and_eq_true] at h
    have h1 : PyData.strOk n = true := h.1
    simp [kPy, PyData.canLayAll0, PyData.canLay0, h1, canLay_keys ns h.2]
theorem depth_keys : ∀ ks : List L2.Key, PyData.depthAll (ks.map kPy) = 0
  | [] => by simp [PyData.depthAll]
  | .inl n :: ns => by simp [kPy, PyData.depthAll, PyData.depth, depth_keys ns]
  | .inr n :: ns => by simp [kPy, PyData.depthAll, PyData.depth, depth_keys ns]
theorem okD_ok : ∀ (n : Nat) (d : D), okD n d = true → d.py.canLay0 = true ∧ d.py.depth ≤ n
  | 0, .non, _ => by simp [D.py, PyData.canLay0, PyData.depth]
  | 0, .bl _, _ => by simp [D.py, PyData.canLay0, PyData.depth]
  | 0, .int _, _ => by simp [D.py, PyData.canLay0, PyData.depth]
  | 0, .str x, h => by
    have h' : PyData.strOk x = true := h
    simp [D.py, PyData.canLay0, PyData.depth, h']
  | 0, .lst _, h => by cases h
  | 0, .tup _, h => by cases h
  | 0, .scr _, h => by cases h
  | 0, .dic _ _, h => by cases h
  | 0, .dct _ _, h => by cases h
  | 0, .ins _ _ _, h => by cases h
  | 0, .obj _, h => by cases h
  | 0, .key _, h => by cases h
  | n + 1, .dic _ _, h => by cases h
  | n + 1, .dct _ _, h => by cases h
  | n + 1, .ins _ _ _, h => by cases h
  | n + 1, .obj _, h => by cases h
  | n + 1, .key ks, h => by
    have h' : ks.all kOk = true := h
    simp [D.py, PyData.canLay0, PyData.depth, canLay_keys ks h', depth_keys ks]
  | n + 1, .non, _ => by simp [D.py, PyData.canLay0, PyData.depth]
  | n + 1, .bl _, _ => by simp [D.py, PyData.canLay0, PyData.depth]
  | n + 1, .int _, _ => by simp [D.py, PyData.canLay0, PyData.depth]
  | n + 1, .str x, h => by
    have h' : PyData.strOk x = true := h
    simp [D.py, PyData.canLay0, PyData.depth, h']
  | n + 1, .lst xs, h => by
    obtain ⟨a, b⟩ := okD_all (okD_ok n) xs h
    refine ⟨by simp [D.py, PyData.canLay0, a], ?_⟩
    simp only [D.py, PyData.depth]
    omega
  | n + 1, .tup xs, h => by
    obtain ⟨a, b⟩ := okD_all (okD_ok n) xs h
    refine ⟨by simp [D.py, PyData.canLay0, a], ?_⟩
    simp only [D.py, PyData.depth]
    omega
  | n + 1, .scr ns, _ => by
    have h1 := canLay_ints ns
    have h2 := depth_ints ns
    refine ⟨by simp [D.py, PyData.canLay0, h1], ?_⟩
    simp only [D.py, PyData.depth]
    omega
theorem shp_of {n : Nat} {d : D} (h : okD n d = true) (hn : n ≤ 64) : shp d = true := by
  obtain ⟨a, b⟩ := okD_ok n d h
  show (d.py.canLay0 && decide (d.py.depth ≤ 64)) = true
  rw [a, Bool.true_and, decide_eq_true_iff]
  omega
def plD : Nat → D → Bool
  | _, .non => true
  | _, .int _ => true
  | _, .str _ => true
  | n + 1, .lst xs => xs.all (plD n)
  | n + 1, .tup xs => xs.all (plD n)
  | _, _ => false
theorem eqv_all {n : Nat} (ih : ∀ d e, plD n d = true → plD n e = true → (PyData.eqv d.py e.py = true ↔ d = e)) : ∀ xs ys : List D, xs.all (plD n) = true → ys.all (plD n) = true → (PyData.eqvAll (D.pys xs) (D.pys ys) = true ↔ xs = ys)
  | [], [], _, _ => by simp [D.pys, PyData.eqvAll]
  | [], _ :: _, _, _ => by simp [D.pys, PyData.eqvAll]
  | _ :: _, [], _, _ => by simp [D.pys, PyData.eqvAll]
  | x :: xs, y :: ys, h, k => by
    rw [List.all_cons, Bool.and_eq_true] at h k
    have h1 := ih x y h.1 k.1
    have h2 := eqv_all ih xs ys h.2 k.2
    simp only [D.pys, PyData.eqvAll, Bool.and_eq_true, h1, h2, List.cons.injEq]
theorem eqv_iff : ∀ (n : Nat) (d e : D), plD n d = true → plD n e = true → (PyData.eqv d.py e.py = true ↔ d = e) := by
  intro n
  induction n with
  | zero =>
    intro d e h k
    cases d <;> cases e <;> first | (simp [D.py, PyData.eqv]; done) | (exact absurd h Bool.false_ne_true) | (exact absurd k Bool.false_ne_true)
  | succ n ih =>
    intro d e h k
    cases d with
    | bl _ => cases h
    | scr _ => cases h
    | dic _ _ => cases h
    | dct _ _ => cases h
    | ins _ _ _ => cases h
    | obj _ => cases h
    | key _ => cases h
    | lst xs =>
      cases e with
      | lst ys =>
        have := eqv_all ih xs ys h k
        simp only [D.py, PyData.eqv, this, D.lst.injEq]
      | bl _ => cases k
      | scr _ => cases k
      | dic _ _ => cases k
      | dct _ _ => cases k
      | ins _ _ _ => cases k
      | obj _ => cases k
      | key _ => cases k
      | _ => simp [D.py, PyData.eqv]
    | tup xs =>
      cases e with
      | tup ys =>
        have := eqv_all ih xs ys h k
        simp only [D.py, PyData.eqv, this, D.tup.injEq]
      | bl _ => cases k
      | scr _ => cases k
      | dic _ _ => cases k
      | dct _ _ => cases k
      | ins _ _ _ => cases k
      | obj _ => cases k
      | key _ => cases k
      | _ => simp [D.py, PyData.eqv]
    | _ =>
      cases e with
      | bl _ => cases k
      | scr _ => cases k
      | dic _ _ => cases k
      | dct _ _ => cases k
      | ins _ _ _ => cases k
      | obj _ => cases k
      | key _ => cases k
      | _ => simp [D.py, PyData.eqv]
def gdD (d : D) : Prop := okD 20 d = true ∧ plD 20 d = true
theorem dEq_self {d : D} (h : gdD d) : dEq d d = some (.bl true) := by
  have s := shp_of h.1 (by decide)
  have q := (eqv_iff 20 d d h.2 h.2).mpr rfl
  cases d with
  | int i => simp
  | str x => simp
  | _ => simp [dEq, s, q]
theorem dEq_ne {d e : D} (h : gdD d) (k : gdD e) (n : d ≠ e) : dEq d e = some (.bl false) := by
  have s := shp_of h.1 (by decide)
  have s2 := shp_of k.1 (by decide)
  have q : PyData.eqv d.py e.py = false := by
    cases z : PyData.eqv d.py e.py with
    | false => rfl
    | true => exact absurd ((eqv_iff 20 d e h.2 k.2).mp z) n
  unfold dEq
  split
  · rename_i i j
    have : i ≠ j := fun z => n (by rw [z])
    simp [this]
  · rename_i i j
    have : i ≠ j := fun z => n (by rw [z])
    simp [this]
  · rw [if_pos ⟨s, s2⟩, q]
theorem dNe_not {d e : D} {k : Bool} (h : dEq d e = some (.bl k)) : dNe d e = some (.bl (!k)) := by
  cases d <;> cases e <;> simp only [dEq, dNe] at h ⊢ <;> first | (injection h with h; injection h with h; rw [h]; done) | (split at h <;> first | (injection h with h; injection h with h; rename_i hh; rw [if_pos hh, h]) | cases h)
end Dt
namespace Dt
section
variable {n : Nat} {i : Int} {k : Bool} {xs : List D}
@[simp] theorem okD_int : okD n (.int i) = true := by cases n <;> rfl
@[simp] theorem okD_non : okD n .non = true := by cases n <;> rfl
@[simp] theorem okD_bl : okD n (.bl k) = true := by cases n <;> rfl
@[simp] theorem okD_lst : okD (n + 1) (.lst xs) = xs.all (okD n) := rfl
@[simp] theorem okD_tup : okD (n + 1) (.tup xs) = xs.all (okD n) := rfl
@[simp] theorem plD_int : plD n (.int i) = true := by cases n <;> rfl
@[simp] theorem plD_non : plD n .non = true := by cases n <;> rfl
@[simp] theorem plD_lst : plD (n + 1) (.lst xs) = xs.all (plD n) := rfl
@[simp] theorem plD_tup : plD (n + 1) (.tup xs) = xs.all (plD n) := rfl
end
end Dt
namespace Dt
open PySem L2
def fq (q : Rat) : D := .tup [.int q.num, .int (q.den : Int)]
def eL {α : Type} (f : α → D) (xs : List α) : D := .lst (xs.map f)
def eT2 {α β : Type} (f : α → D) (g : β → D) (p : α × β) : D := .tup [f p.1, g p.2]
abbrev Num := List Rat ⊕ List Int
abbrev Com := Str × Num
def mkq (p : Int × Int) : Rat := Rat.divInt p.1 p.2
def IsQ (p : Int × Int) : Prop := 0 < p.2 ∧ Nat.gcd p.1.natAbs p.2.natAbs = 1
abbrev Line := List Rat × Rat × Int × Str
abbrev Way := Int × Rat
abbrev Stand := Int × Rat × List Way
abbrev Net := List Line × List Stand × Com
def bd {α β : Sort _} (v : α) (b : α → β) : β := b v
def ixN' (n : Nat) (i : Int) : Nat := if i < 0 then (i + n).toNat else i.toNat
def ix {α : Type} [Inhabited α] (xs : List α) (i : Int) : α := xs.getD (ixN' xs.length i) default
def InB (n : Nat) (i : Int) : Prop := -(n : Int) ≤ i ∧ i < n
def rangeI (lo hi : Int) : List Int := (List.range (hi - lo).toNat).map fun (i : Nat) => lo + (i : Int)
def sfl {σ α : Type} (f : σ → α → σ) (S : σ → α → Prop) : List α → σ → Prop
  | [], _ => True
  | x :: r, s => S s x ∧ sfl f S r (f s x)
inductive Fw (σ ρ : Type) where
  | nx (s : σ)
  | rt (v : ρ)
def flw {σ α ρ : Type} (f : σ → α → Fw σ ρ) : List α → σ → Fw σ ρ
  | [], s => .nx s
  | x :: r, s => match f s x with
    | .nx s' => flw f r s'
    | .rt v => .rt v
def sflw {σ α ρ : Type} (f : σ → α → Fw σ ρ) (S : σ → α → Prop) : List α → σ → Prop
  | [], _ => True
  | x :: r, s => S s x ∧ match f s x with
    | .nx s' => sflw f S r s'
    | .rt _ => True
def fwc {σ ρ β : Type} (w : Fw σ ρ) (kr : ρ → β) (kn : σ → β) : β := match w with
  | .nx s => kn s
  | .rt v => kr v
def sfwc {σ ρ : Type} (w : Fw σ ρ) (S : σ → Prop) : Prop := match w with
  | .nx s => S s
  | .rt _ => True
theorem sfwc_T {σ ρ : Type} {w : Fw σ ρ} : sfwc w (fun _ => True) := by cases w <;> trivial
section
variable {ρ ρ1 ρ2 ρ3 : Env} {i j n : Nat} {x y z d : D} {xs ys ds : List D} {f f1 f2 f3 fk fe : M D} {fs : M (List D)} {fo : M (D × Ob)} {g : D → D → Option D} {g1 : D → Option D} {gs : List D → Option D} {t u : M Bool} {c c2 : Bool} {o : Ob}
theorem v_fz (h : ρ[i]? = some (.fz d)) : mVar i ρ = .ok d ρ := by unfold mVar; rw [h]
theorem vf (i : Nat) (h : ρ[i]? = some (.fz d)) : mVar i ρ = .ok d ρ := v_fz h
abbrev zI (x : Int) : Slot := .fz (.int x)
abbrev zQ (x : Rat) : Slot := .fz (fq x)
theorem b2 (h1 : f1 ρ = .ok x ρ1) (h2 : f2 ρ1 = .ok y ρ2) (h3 : g x y = some z) : mBin g f1 f2 ρ = .ok z ρ2 := by
  unfold mBin M.bind; rw [h1]; dsimp only; rw [h2]; dsimp only; unfold M.opt; rw [h3]
theorem u1 (h1 : f ρ = .ok x ρ1) (h3 : g1 x = some z) : mUn g1 f ρ = .ok z ρ1 := by
  unfold mUn M.bind; rw [h1]; dsimp only; unfold M.opt; rw [h3]
theorem a0 : mNil ρ = .ok [] ρ := rfl
theorem a1 (h1 : f ρ = .ok x ρ1) (h2 : fs ρ1 = .ok xs ρ2) : mCons f fs ρ = .ok (x :: xs) ρ2 := by
  unfold mCons M.bind; rw [h1]; dsimp only; rw [h2]; rfl
theorem c1 (h : fs ρ = .ok xs ρ1) (h2 : gs xs = some d) : mCall gs fs ρ = .ok d ρ1 := by
  unfold mCall M.bind; rw [h]; dsimp only; unfold M.opt; rw [h2]
theorem x0 : xNil ρ = .ok [] ρ := rfl
theorem x1 {fx : M (List AV)} {avs : List AV} (h1 : f ρ = .ok x ρ1) (h2 : fx ρ1 = .ok avs ρ2) : xV f fx ρ = .ok (.v x :: avs) ρ2 := by
  unfold xV M.bind; rw [h1]; dsimp only; rw [h2]; rfl
theorem x1s {fx : M (List AV)} {avs : List AV} {s : Slot} (h1 : ρ[i]? = some s) (ho : flat s = true) (h2 : fx ρ = .ok avs ρ2) : xS i fx ρ = .ok (.s i :: avs) ρ2 := by
  unfold xS M.bind; dsimp only; rw [h1]
  cases s with
  | ow d => dsimp only; rw [h2]; rfl
  | io d => dsimp only; rw [h2]; rfl
  | un => cases ho
  | fz d => cases ho
  | dp m d => cases ho
def aft (m : Option Nat) (avs : List AV) (ρ : Env) (out : D) : Env := match slotOf m avs with
  | none => ρ
  | some i => ρ.set i (reslot ρ[i]? out)
theorem cN {fx : M (List AV)} {avs : List AV} {m : Option Nat} {fn : List D → Rf} {out : D} (h : fx ρ = .ok avs ρ1) (hl : avs.length = n) (hs : setup ρ1 m avs = some ds) (hf : fn ds = .ok d o out)
    (hr : aft m avs ρ1 out = ρ2) (ho : o.ok = true := by rfl) : mCallN n m fn fx ρ = .ok (d, o) ρ2 := by
  unfold mCallN mCallF M.bind
  rw [h]; dsimp only
  rw [if_pos hl]
  unfold M.opt; dsimp only
  rw [hs]; dsimp only
  rw [hf]; dsimp only
  rw [if_pos ho, ← hr]; rfl
theorem mfz (h : fo ρ = .ok (d, o) ρ1) (ho : o.ok = true := by rfl) : mFz fo ρ = .ok d ρ1 := by unfold mFz M.bind; rw [h]; dsimp only; rw [if_pos ho]; rfl
theorem mof (h : f ρ = .ok d ρ1) : mOf f ρ = .ok (d, .ff) ρ1 := by unfold mOf M.bind; rw [h]; rfl
theorem mtup (h : fs ρ = .ok xs ρ1) (hl : Nat.ble xs.length 10000 = true := by rfl) : mTup fs ρ = .ok (.tup xs) ρ1 := by
  unfold mTup M.bind; rw [h]; dsimp only; rw [if_pos (Nat.le_of_ble_eq_true hl)]; rfl
theorem mlst (h : fs ρ = .ok xs ρ1) (hl : Nat.ble xs.length 10000 = true := by rfl) : mLst fs ρ = .ok (.lst xs, .tt) ρ1 := by
  unfold mLst M.bind; rw [h]; dsimp only; rw [if_pos (Nat.le_of_ble_eq_true hl)]; rfl
theorem tst (h : f ρ = .ok (.bl c) ρ1) : mTest f ρ = .ok c ρ1 := by unfold mTest M.bind; rw [h]; rfl
theorem an (h1 : t ρ = .ok c ρ1) (h2 : c = true → u ρ1 = .ok c2 ρ1) : mAnd t u ρ = .ok (c && c2) ρ1 := by
  unfold mAnd M.bind; rw [h1]
  cases c with
  | true => exact h2 rfl
  | false => rfl
end
section
variable {α β : Type} {F : α → D} {G : β → D} {p q : Int} {s1 s2 : Str} {k1 k2 : Bool}
theorem o_mul (h : mulOk p q = true) : dMul (.int p) (.int q) = some (.int (p * q)) := if_pos h
theorem o_pow (h : powOk p q = true) : dPow (.int p) (.int q) = some (.int (p ^ q.toNat)) := if_pos h
theorem ixN_of {n : Nat} {i : Int} (h : InB n i) : ixN n i = some (ixN' n i) ∧ ixN' n i < n := by
  obtain ⟨h1, h2⟩ := h
  unfold ixN ixN'
  by_cases q : i < 0
  · rw [if_neg (by omega), if_pos h1, if_pos q]; exact ⟨rfl, by omega⟩
  · rw [if_pos (by omega), if_pos h2, if_neg q]; exact ⟨rfl, by omega⟩
theorem at_of {γ : Type} {F : α → γ} [Inhabited α] {xs : List α} {i : Int} (h : InB xs.length i) : L2.atI (xs.map F) i = some (F (ix xs i)) := by
  obtain ⟨h1, h2⟩ := ixN_of h
  unfold L2.atI ix
  rw [List.length_map, h1]
  show (xs.map F)[ixN' xs.length i]? = _
  rw [List.getElem?_map, List.getElem?_eq_getElem h2, List.getD_eq_getElem?_getD, List.getElem?_eq_getElem h2]
  rfl
theorem o_ixL [Inhabited α] {xs : List α} (h : InB xs.length p) : dIx (eL F xs) (.int p) = some (F (ix xs p)) := at_of h
end
end Dt
namespace Dt
open PySem PySem.Spec PyProof.Rows L2
def mKill (is : List Nat) : M Fl := fun ρ => .ok .nx (wipeE ρ is)
theorem Lv.kill {K : PySem.W.Frag} {F : Fr} {ρ : Env} {σ : St} {B H : Hp} (L : Lv K F ρ σ B H) : ∀ is : List Nat, Lv K F (wipeE ρ is) σ B H
  | [] => L
  | i :: is => (Lv.kill L is).slot rfl (fun d z => nomatch z)
section
variable {X : Cx} {W : WX} {sts : List Stmt} {f : M Fl} {is : List Nat} {i : Nat}
theorem svs_kill (h : SVs X W sts f) : SVs X W sts (mSeq (mKill is) f) := fun F ρ σ B H N L P => h F _ σ B H N (L.kill is) P
end
section
variable {α β : Type} {F : α → D} {G : β → D} {ρ ρ1 ρ2 : Env} {f f1 f2 : M D} {fs : M (List D)} {ds : List D}
theorem rangeD_eq (lo hi : Int) : rangeD lo hi = (rangeI lo hi).map D.int := by
  unfold rangeD rangeI
  rw [List.map_map]; rfl
theorem i_r1 {j : Int} (h : fs ρ = .ok [.int j] ρ1) (hb : -100000000 < j ∧ j < 100000000) : mRange1 fs ρ = .ok ((rangeI 0 j).map D.int) ρ1 := by
  unfold mRange1 M.bind; rw [h]; dsimp only; rw [if_pos hb, rangeD_eq]; rfl
end
section
variable {α β σ : Type} {F : α → D} {G : β → D} {own : List Nat} {f : M (List D)} {g : D → Env → Option Env} {t : M Bool} {e : M D} {ρ ρ0 ρ1 ρ9 : Env}
end
section
variable {β τ : Type} {J : Rs Fl → β → Prop} {ρ ρ1 ρ2 : Env} {f g k : M Fl} {fo : M (D × Ob)} {fd fk fe : M D} {fs : M (List D)} {t : M Bool} {c : Bool} {x y : β} {d d2 : D} {i j : Nat} {o : Ob}
theorem sq_eq (h1 : f ρ = .ok .nx ρ1) : mSeq f g ρ = g ρ1 := by unfold mSeq M.bind; rw [h1]
theorem sq (h1 : f ρ = .ok .nx ρ1) (h2 : J (g ρ1) x) : J (mSeq f g ρ) x := by rw [sq_eq h1]; exact h2
theorem sqB {ctx : τ → Env} {v : τ} {b : τ → β} {S : τ → Prop} (h1 : f ρ = .ok .nx (ctx v)) (hs : bd v S) (h2 : ∀ v, S v → J (g (ctx v)) (b v)) : J (mSeq f g ρ) (bd v b) := sq h1 (h2 v hs)
theorem mIf_t {α : Type} {f g : M α} (h : t ρ = .ok true ρ1) : mIf t f g ρ = f ρ1 := by unfold mIf M.bind; rw [h]
theorem mIf_f {α : Type} {f g : M α} (h : t ρ = .ok false ρ1) : mIf t f g ρ = g ρ1 := by unfold mIf M.bind; rw [h]
theorem sqIf (h : t ρ = .ok c ρ1) (h1 : c = true → J (mSeq f k ρ1) x) (h2 : c = false → J (mSeq g k ρ1) y) : J (mSeq (mIf t f g) k ρ) (cond c x y) := by
  cases c with
  | true =>
    have e : mSeq (mIf t f g) k ρ = mSeq f k ρ1 := by unfold mSeq M.bind; rw [mIf_t h]
    rw [e]; exact h1 rfl
  | false =>
    have e : mSeq (mIf t f g) k ρ = mSeq g k ρ1 := by unfold mSeq M.bind; rw [mIf_f h]
    rw [e]; exact h2 rfl
theorem sSet (h : fo ρ = .ok (d, .ff) ρ1) (e : ρ1.set i (.fz d) = ρ2) : mSet i fo ρ = .ok .nx ρ2 := by unfold mSet M.bind; rw [h]; subst e; rfl
theorem sSetO (h : fo ρ = .ok (d, .tt) ρ1) (e : ρ1.set i (.ow d) = ρ2) : mSet i fo ρ = .ok .nx ρ2 := by unfold mSet M.bind; rw [h]; subst e; rfl
theorem sKill {is : List Nat} (e : wipeE ρ is = ρ2) : mKill is ρ = .ok .nx ρ2 := by unfold mKill; rw [e]
theorem ret_eq (h : fo ρ = .ok (d, o) ρ1) : mRet fo ρ = .ok (.rt d o) ρ1 := by unfold mRet M.bind; rw [h]; rfl
theorem sRet (h : fo ρ = .ok (d, o) ρ1) (h2 : J (.ok (.rt d o) ρ1) x) : J (mRet fo ρ) x := by rw [ret_eq h]; exact h2
theorem sqRet (h : fo ρ = .ok (d, o) ρ1) (h2 : J (.ok (.rt d o) ρ1) x) : J (mSeq (mRet fo) g ρ) x := by
  unfold mSeq M.bind; rw [ret_eq h]; exact h2
variable {α : Type} {F : α → D} {xs : List α} {v : α} {z : Int}
end
end Dt
namespace Dt
open PySem L2
section
variable {β γ σ : Type}
def JN (ctx : σ → Env) (r : Rs Fl) (s : σ) : Prop := r = .ok .nx (ctx s)
def JR (F : β → D) (o : Ob) (r : Rs Fl) (x : β) : Prop := ∃ ρ', r = .ok (.rt (F x) o) ρ'
def JW0 (ctx : σ → Env) (J : Rs Fl → β → Prop) (r : Rs Fl) (w : Fw σ β) : Prop := match w with
  | .nx s => r = .ok .nx (ctx s)
  | .rt v => J r v
structure JW (ctx : σ → Env) (J : Rs Fl → β → Prop) (r : Rs Fl) (w : Fw σ β) : Prop where
  h : JW0 ctx J r w
theorem jw_rt {ctx : σ → Env} {J : Rs Fl → β → Prop} {r : Rs Fl} {v : β} (h : J r v) : JW ctx J r (.rt v) := ⟨h⟩
theorem jw_nx {ctx : σ → Env} {J : Rs Fl → β → Prop} {r : Rs Fl} {s : σ} (h : r = .ok .nx (ctx s)) : JW ctx J r (.nx s) := ⟨h⟩
variable {n j : Nat} {fb : M Fl} {ds : List D} {F : β → D} {G : γ → D} {o : Ob} {ρ : Env}
theorem jr_mk {x : β} {d : D} (e : d = F x) : JR F o (.ok (.rt d o) ρ) x := ⟨ρ, by rw [e]⟩
theorem run0 {x : β} (h : JR F o (fb (initE none n ds)) x) : runF none n fb ds = .ok (F x) o .non := by
  obtain ⟨ρ', h⟩ := h
  unfold runF; rw [h]; rfl
def IsRt (J : Rs Fl → β → Prop) : Prop := ∀ r v, J r v → ∃ d o ρ', r = .ok (.rt d o) ρ'
theorem isRt_R : IsRt (JR F o) := fun r v ⟨ρ', h⟩ => ⟨_, _, ρ', h⟩
end
section
variable {α β γ σ : Type} {F : α → D} {f : M (List D)} {g : D → Env → Option Env} {b k : M Fl} {ρ : Env} {ctx : σ → Env}
theorem forL_fl {step : σ → α → σ} {S : σ → α → Prop} (hb : ∀ s x, S s x → ∃ ρ1, g (F x) (ctx s) = some ρ1 ∧ JN ctx (b ρ1) (step s x)) : ∀ (xs : List α) (s : σ), sfl step S xs s → mForL g b (xs.map F) (ctx s) = .ok .nx (ctx (xs.foldl step s))
  | [], s, _ => rfl
  | x :: r, s, h => by
    obtain ⟨ρ1, h1, h2⟩ := hb s x h.1
    unfold JN at h2
    rw [List.map_cons]
    unfold mForL
    rw [h1]; dsimp only
    unfold M.bind
    rw [h2]
    exact forL_fl hb r _ h.2
theorem forN {step : σ → α → σ} {S : σ → α → Prop} {xs : List α} {s : σ} (hf : f ρ = .ok (xs.map F) (ctx s)) (hs : sfl step S xs s) (hb : ∀ s x, S s x → ∃ ρ1, g (F x) (ctx s) = some ρ1 ∧ JN ctx (b ρ1) (step s x)) : mFor f g b ρ = .ok .nx (ctx (xs.foldl step s)) := by
  unfold mFor M.bind
  rw [hf]
  exact forL_fl hb xs s hs
theorem forL_fw {J' : Rs Fl → β → Prop} {step : σ → α → Fw σ β} {S : σ → α → Prop} (hi : IsRt J') (hb : ∀ s x, S s x → ∃ ρ1, g (F x) (ctx s) = some ρ1 ∧ JW ctx J' (b ρ1) (step s x)) : ∀ (xs : List α) (s : σ), sflw step S xs s → JW ctx J' (mForL g b (xs.map F) (ctx s)) (flw step xs s)
  | [], s, _ => jw_nx rfl
  | x :: r, s, h => by
    obtain ⟨ρ1, h1, h2⟩ := hb s x h.1
    have h3 := h.2
    rw [List.map_cons]
    unfold mForL flw
    rw [h1]; dsimp only
    unfold M.bind
    cases q : step s x with
    | nx s' =>
      rw [q] at h2 h3
      have h2' : b ρ1 = .ok .nx (ctx s') := h2.h
      rw [h2']
      exact forL_fw hi hb r s' h3
    | rt v =>
      rw [q] at h2
      have h2' : J' (b ρ1) v := h2.h
      obtain ⟨d, o, ρ', e⟩ := hi _ _ h2'
      rw [e] at h2' ⊢
      exact jw_rt h2'
theorem forW {J : Rs Fl → γ → Prop} {J' : Rs Fl → β → Prop} {kr : β → γ} {kn : σ → γ} {step : σ → α → Fw σ β} {S : σ → α → Prop} {S2 : σ → Prop} {xs : List α} {s : σ} (hi : IsRt J') (hr : ∀ r v, J' r v → J r (kr v)) (hf : f ρ = .ok (xs.map F) (ctx s)) (hs : sflw step S xs s) (hs2 : sfwc (flw step xs s) S2)
    (hb : ∀ s x, S s x → ∃ ρ1, g (F x) (ctx s) = some ρ1 ∧ JW ctx J' (b ρ1) (step s x)) (hk : ∀ s, S2 s → J (k (ctx s)) (kn s)) : J (mSeq (mFor f g b) k ρ) (fwc (flw step xs s) kr kn) := by
  have h := forL_fw hi hb xs s hs
  have e : mFor f g b ρ = mForL g b (xs.map F) (ctx s) := by unfold mFor M.bind; rw [hf]
  unfold mSeq M.bind
  rw [e]
  cases q : flw step xs s with
  | nx s' =>
    rw [q] at h hs2
    have h' : mForL g b (xs.map F) (ctx s) = .ok .nx (ctx s') := h.h
    rw [h']
    exact hk s' hs2
  | rt v =>
    rw [q] at h
    have h' : J' (mForL g b (xs.map F) (ctx s)) v := h.h
    obtain ⟨d, o, ρ', e2⟩ := hi _ _ h'
    rw [e2] at h' ⊢
    exact hr _ _ h'
end
structure Gd (n : Nat) {α : Type} (F : α → D) : Prop where
  ok : ∀ x, okD n (F x) = true
  pl : ∀ x, plD n (F x) = true
  inj : ∀ x y, F x = F y → x = y
section
variable {n m : Nat} {α β γ δ : Type} {F : α → D} {G : β → D} {H : γ → D} {K : δ → D}
theorem okD_up : ∀ {n m : Nat} {d : D}, n ≤ m → okD n d = true → okD m d = true
  | n, m, .non, _, _ => okD_non
  | n, m, .bl _, _, _ => okD_bl
  | n, m, .int _, _, _ => okD_int
  | n, m, .str x, _, h => by cases n <;> cases m <;> exact h
  | 0, _, .lst _, _, h => by cases h
  | 0, _, .tup _, _, h => by cases h
  | 0, _, .scr _, _, h => by cases h
  | n, m, .dic _ _, _, h => by cases n <;> cases h
  | n, m, .dct _ _, _, h => by cases n <;> cases h
  | n, m, .ins _ _ _, _, h => by cases n <;> cases h
  | n, m, .obj _, _, h => by cases n <;> cases h
  | 0, _, .key _, _, h => by cases h
  | n + 1, m + 1, .key _, _, h => h
  | n + 1, 0, _, hm, _ => by omega
  | n + 1, m + 1, .lst xs, hm, h => by
    rw [okD_lst, List.all_eq_true] at h ⊢
    exact fun x hx => okD_up (by omega) (h x hx)
  | n + 1, m + 1, .tup xs, hm, h => by
    rw [okD_tup, List.all_eq_true] at h ⊢
    exact fun x hx => okD_up (by omega) (h x hx)
  | n + 1, m + 1, .scr _, _, _ => rfl
theorem plD_up : ∀ {n m : Nat} {d : D}, n ≤ m → plD n d = true → plD m d = true
  | n, m, .non, _, _ => plD_non
  | n, m, .bl _, _, h => by cases n <;> cases h
  | n, m, .int _, _, _ => plD_int
  | n, m, .str x, _, h => by cases m <;> rfl
  | 0, _, .lst _, _, h => by cases h
  | 0, _, .tup _, _, h => by cases h
  | n, _, .scr _, _, h => by cases n <;> cases h
  | n, _, .dic _ _, _, h => by cases n <;> cases h
  | n, _, .dct _ _, _, h => by cases n <;> cases h
  | n, _, .ins _ _ _, _, h => by cases n <;> cases h
  | n, _, .obj _, _, h => by cases n <;> cases h
  | n, _, .key _, _, h => by cases n <;> cases h
  | n + 1, 0, _, hm, _ => by omega
  | n + 1, m + 1, .lst xs, hm, h => by
    rw [plD_lst, List.all_eq_true] at h ⊢
    exact fun x hx => plD_up (by omega) (h x hx)
  | n + 1, m + 1, .tup xs, hm, h => by
    rw [plD_tup, List.all_eq_true] at h ⊢
    exact fun x hx => plD_up (by omega) (h x hx)
theorem gQ : Gd 1 fq := ⟨fun _ => rfl, fun _ => rfl, fun x y h => by
  injection h with h
  injection h with h1 h
  injection h with h2 h
  injection h1 with h1
  injection h2 with h2
  exact Rat.ext h1 (by omega)⟩
theorem Gd.gd (h : Gd n F) (l : n ≤ 20 := by decide) (x : α) : gdD (F x) := ⟨okD_up l (h.ok x), plD_up l (h.pl x)⟩
theorem o_eq [DecidableEq α] (h : Gd n F) {x y : α} (l : n ≤ 20 := by decide) : dEq (F x) (F y) = some (.bl (decide (x = y))) := by
  by_cases q : x = y
  · subst q; rw [dEq_self (h.gd l x)]; simp
  · rw [dEq_ne (h.gd l x) (h.gd l y) (fun z => q (h.inj x y z))]; simp [q]
theorem o_ne [DecidableEq α] (h : Gd n F) {x y : α} (l : n ≤ 20 := by decide) : dNe (F x) (F y) = some (.bl (!decide (x = y))) := dNe_not (o_eq h l)
end
section
variable {ρ ρ1 ρ2 : Env} {i : Nat} {α : Type} {F : α → D} {xs : List α} {fk fe f2 : M D} {z : Int} {d y : D} {c : Bool} {T : String}
theorem mkq_enc {p : Int × Int} (h : IsQ p) : eT2 D.int D.int p = fq (mkq p) := by
  obtain ⟨a, b⟩ := p
  obtain ⟨h1, h2⟩ := h
  dsimp only at h1 h2
  unfold fq mkq eT2
  dsimp only
  rw [Rat.num_divInt, Rat.den_divInt, if_neg (by omega), Int.gcd, Nat.gcd_comm, h2, Int.sign_eq_one_of_pos h1]
  simp
  omega
theorem cQ {f : M D} {p : Int × Int} (h : f ρ = .ok (eT2 D.int D.int p) ρ1) (k : IsQ p) : f ρ = .ok (fq (mkq p)) ρ1 := by rw [h, mkq_enc k]
theorem bdh {P Q : Prop} (h : P) (k : P → Q) : Q := k h
end
end Dt
namespace Dt
open PySem PySem.Spec PyProof.Rows L2
section
variable {X : Cx} {W : WX} {e o kx : Expr} {es : List Expr} {pos : Pos} {i : Nat} {x : Str} {px : Pos} {K : PySem.W.Frag}
end
section
variable {ρ ρ1 ρ2 ρ3 : Env} {i n : Nat} {α : Type} {F : α → D} {xs : List α} {v v2 : α} {z z2 : Int} {fk fk2 : M D} {d : D}
end
section
variable {K : PySem.W.Frag} {B H : Hp}
end
section
variable {X : Cx} {W : WX} {e o kx : Expr} {pos : Pos} {i : Nat}
end
end Dt
namespace Dt
open PySem PySem.Spec PyProof.Rows L2
section
variable {ρ ρ0 ρ1 ρ2 ρ3 ρ4 ρ9 : Env} {i : Nat} {α β : Type} {F : α → D} {G : β → D} {xs : List (List α)} {v : α} {z z1 z2 : Int} {fk fk1 fk2 fe : M D} {m : Mk}
end
section
variable {α β : Type} {F : α → D} {G : β → D} {f : M (List D)} {g : D → Env → Option Env} {t : M Bool} {e : M (D × Ob)} {own : List Nat} {ρ ρ0 ρ1 ρ9 : Env} {m : Mk} {o : Ob}
end
abbrev NE := Rat ⊕ Int
instance : Inhabited NE := ⟨.inr 0⟩
end Dt
namespace Dt
open PySem PySem.Spec PyProof.Rows L2
section
variable {X : Cx} {W : WX} {e : Expr} {pos : Pos} {i : Nat} {x : Str} {px : Pos}
end
end Dt
namespace Dt
open PySem PySem.Spec PyProof.Rows L2
end Dt
namespace Dt
open PySem PySem.Spec PyProof.Rows L2
instance iLine : DecidableEq Line := inferInstance
instance iStand : DecidableEq Stand := inferInstance
instance iComD : DecidableEq Com := inferInstance
instance iSCD : DecidableEq (List Stand × Com) := @instDecidableEqProd _ _ inferInstance inferInstance
instance iNetD : DecidableEq Net := @instDecidableEqProd (List Line) (List Stand × Com) inferInstance iSCD
end Dt
namespace Dt
open PySem PySem.Spec PyProof.Rows L2
end Dt
namespace Dt
open PySem PySem.Spec PyProof.Rows L2
section
variable {K : PySem.W.Frag} {F : Fr} {ρ : Env} {σ : St} {B H : Hp}
end
end Dt
namespace Dt
open PySem PySem.Spec PyProof.Rows L2
def HO.isC : HO → Prop
  | .lst _ => True
  | .dK _ => True
  | .dT _ => True
  | .ins _ _ _ => True
  | _ => False
section
variable {K : PySem.W.Frag} {B : Hp} {a : Addr} {o : HO}
end
section
variable {X : Cx} {W : WX} {e : Expr} {i : Nat}
end
end Dt
namespace Dt
end Dt
namespace Dt
open PySem PySem.Spec PyProof.Rows L2
section
variable {K : PySem.W.Frag} {B H : Hp} {S : List Addr}
theorem Ow.isC {a : Addr} {d : D} (w : Ow K B H a d) : ∃ o, H a = some o ∧ HO.isC o := by
  cases d with
  | lst ds => obtain ⟨h, vs, q, f⟩ := w; exact ⟨_, q, trivial⟩
  | dic ks ds => obtain ⟨h, vs, q, l, f⟩ := w; exact ⟨_, q, trivial⟩
  | dct ks ds => obtain ⟨h, vs, q, l, f⟩ := w; exact ⟨_, q, trivial⟩
  | ins c ks ds => obtain ⟨h, vs, C, dx, q, l, f⟩ := w; exact ⟨_, q, trivial⟩
  | _ => exact w.elim
mutual
theorem Tr.isC : ∀ {m : Mk} {v : V} {d : D} {T : List Addr}, Tr K B H m v d T → ∀ a ∈ T, ∃ o, H a = some o ∧ HO.isC o
  | .z, _, _, _, h => by
    unfold Tr at h
    rw [h.2]; exact fun a q => nomatch q
  | .l m, _, _, _, h => by
    unfold Tr at h
    obtain ⟨a, vs, ds, T, rfl, rfl, b, q, i, rfl⟩ := h
    intro x hx
    rcases List.mem_cons.mp hx with rfl | hx
    · exact ⟨_, q, trivial⟩
    · exact i.all (fun v d T r => Tr.isC (m := m) r) x hx
  | .t ms, _, _, _, h => by
    unfold Tr at h
    obtain ⟨a, vs, ds, rfl, rfl, b, i⟩ := h
    exact TrT.isC (ms := ms) i
theorem TrT.isC : ∀ {ms : Mks} {vs : List V} {ds : List D} {T : List Addr}, TrT K B H ms vs ds T → ∀ a ∈ T, ∃ o, H a = some o ∧ HO.isC o
  | .nil, _, _, _, h => by
    unfold TrT at h
    rw [h.2.2]; exact fun a q => nomatch q
  | .cons m r, _, _, _, h => by
    unfold TrT at h
    obtain ⟨v, vs, d, ds, S1, S2, rfl, rfl, t1, t2, rfl⟩ := h
    exact fun x hx => (List.mem_append.mp hx).elim (Tr.isC (m := m) t1 x) (TrT.isC (ms := r) t2 x)
end
theorem Ft.isC {v : V} {s : Slot} (h : Ft K B H v s S) : ∀ a ∈ S, ∃ o, H a = some o ∧ HO.isC o := by
  cases s with
  | un => exact h.elim
  | fz _ => exact h.elim
  | ow d => obtain ⟨a, rfl, w, rfl⟩ := h; intro x hx; rw [List.mem_singleton.mp hx]; exact w.isC
  | io d => obtain ⟨a, rfl, w, rfl⟩ := h; intro x hx; rw [List.mem_singleton.mp hx]; exact w.isC
  | dp m d => exact h.1.isC
end
section
variable {X : Cx} {W : WX} {e : Expr} {i : Nat} {K : PySem.W.Frag} {F : Fr} {ρ ρ1 : Env} {σ : St} {B H B' H' : Hp} {s : Slot} {v : V} {S : List Addr}
end
section
variable {X : Cx} {W : WX} {e : Expr} {pos : Pos}
end
section
variable {ρ ρ1 ρ2 : Env} {i n : Nat} {α β : Type} {b : α}
end
end Dt
namespace Dt
open PySem PySem.Spec PyProof.Rows L2
section
variable {ρ ρ1 ρ2 ρ3 ρ4 ρ5 : Env} {i : Nat} {α β γ δ : Type} {F : α → D} {G : β → D} {J : γ → D} {L : δ → D}
end
end Dt
namespace Dt
open PySem PySem.Spec PyProof.Rows L2
end Dt
namespace Dt
open PySem PySem.Spec PyProof.Rows L2
structure Cl where
  nm : Str
  takes : List Str
  g : M Fl
def ExM (K : PySem.W.Frag) (mg : Str → Option Value) (c h : Str) (b : Bool) : Prop := PySem.W.exmOne K ((mg c).getD .none) ((mg h).getD .none) = some b
def ExA (K : PySem.W.Frag) (mg : Str → Option Value) (ks : List Str) (k : Cl) : Prop := ∀ c ∈ ks, ExM K mg c k.nm (decide (c ∈ k.takes))
theorem exa_nil {K : PySem.W.Frag} {mg : Str → Option Value} {k : Cl} : ExA K mg [] k := fun c h => absurd h List.not_mem_nil
theorem exa_cons {K : PySem.W.Frag} {mg : Str → Option Value} {k : Cl} {c : Str} {ks : List Str} {b : Bool} (e : ExM K mg c k.nm b) (r : ExA K mg ks k) (hb : decide (c ∈ k.takes) = b := by decide) : ExA K mg (c :: ks) k := fun x hx => by
  rcases List.mem_cons.mp hx with rfl | hx
  · rw [hb]; exact e
  · exact r x hx
section
variable {X : Cx} {W : WX}
end
end Dt
namespace Dt
open PySem PySem.Spec PyProof.Rows L2
section
variable {α β : Type} {f : M α} {g : α → M β} {ρ ρ' ρ1 : Env} {c : Str}
theorem bz (h : f ρ = .rz c ρ') : M.bind f g ρ = .rz c ρ' := by unfold M.bind; rw [h]
theorem cZ {n : Nat} {fx : M (List AV)} {avs : List AV} {fn : List D → Rf} {ds : List D} (h : fx ρ = .ok avs ρ1) (hl : avs.length = n) (hs : setup ρ1 none avs = some ds) (hf : fn ds = .rz c) : mCallN n none fn fx ρ = .rz c ρ1 := by
  unfold mCallN mCallF M.bind
  rw [h]; dsimp only
  rw [if_pos hl]
  unfold M.opt; dsimp only
  rw [hs]; dsimp only
  rw [hf]
  have e : ∀ l : List AV, slotOf none l = none := fun l => by cases l <;> rfl
  show Rs.rz c (match slotOf none avs with | none => ρ1 | some i => List.set ρ1 i Slot.un) = _
  rw [e]
end
def rzOf : Rf → Str
  | .rz c => c
  | _ => default
def IsZ (r : Rf) : Prop := r = .rz (rzOf r)
theorem isZ_of {r : Rf} {c : Str} (h : r = .rz c) : IsZ r ∧ rzOf r = c := by subst h; exact ⟨rfl, rfl⟩
end Dt
namespace Dt
open PySem PySem.Spec PyProof.Rows L2
def rIsET (K : PySem.W.Frag) (D a : Addr) : List V → Hp → VK → Prop := fun xs H Q => ∃ (tp : Addr) (cs : List V) (us : List Value) (b : Bool), xs = [.ref a, .ref tp] ∧ H tp = some (.tup cs) ∧ Paired ClsV cs us ∧ PySem.W.kitAny K (.ref D) us = some b ∧ Q (.bl b) H
theorem call_isET {X : Cx} {a D : Addr} {oe : Obj} {pn : List (Addr × Obj)} (C : L2.ExcC X.K D) (hz : Zc (.ref D) none oe) (hf : ∃ vs, oe.data = .fields vs) : CallR (X.suite a ((a, oe) :: pn)) (.builtin "isinstance") (rIsET X.K D a) := by
  intro pins s σ H xs us Q I r h
  obtain ⟨tp, cs, ws, b, rfl, hT, k, e, q⟩ := h
  obtain ⟨u1, u2, rfl, r1, r2⟩ := vals2 r
  cases (show u1 = Value.ref a from r1)
  cases (show u2 = Value.ref tp from r2)
  obtain ⟨hget, _⟩ := I.pin (a, oe) (List.mem_append.mpr (.inl List.mem_cons_self))
  obtain ⟨vs, hv⟩ := hf
  have J : PySem.W.InstAt s.heap a oe D none := by
    obtain ⟨oc, od, oda, osl⟩ := oe
    obtain ⟨h1, h2⟩ := hz
    dsimp only at h1 h2 hv
    subst h1 h2 hv
    exact ⟨hget, rfl, rfl, trivial⟩
  obtain ⟨_, its, rv, o, h1, h2, n, h3⟩ := (show ObjOk X.prog X.w H s.heap tp (.tup cs) from I.hok tp _ hT)
  have e3 := ClsV.all k rv
  subst e3
  obtain ⟨oc, od, dt, sl⟩ := o
  simp only at h2 h3
  subst h2 h3
  exact PySem.W.kia_tup (PySem.W.handS_kitx_exc C.hg C.hk C.hs C.hd C.ha C.hn C.ht C.hm) I.kIn J h1 e (fun z => nomatch z) fun tk => ⟨.bl b, H, I.kept (t' := tk) fun _ _ z => z, rfl, q⟩
def XeC (K : PySem.W.Frag) (mg : Str → Option Value) (c : Str) : Prop := ∃ D, mg c = some (.ref D) ∧ L2.ExcC K D
def Hld (X : Cx) (a : Addr) (c : Str) : Prop := ∃ D, X.mg c = some (.ref D) ∧ CallR X (.builtin "isinstance") (rIsE X.K D a) ∧ CallR X (.builtin "isinstance") (rIsET X.K D a)
theorem hld_of {X : Cx} {a : Addr} {oe : Obj} {pn : List (Addr × Obj)} {c : Str} (h : XeC X.K X.mg c) (hz : Zc (cv X c) none oe) (hf : ∃ vs, oe.data = .fields vs) : Hld (X.suite a ((a, oe) :: pn)) a c := by
  obtain ⟨D, e, C⟩ := h
  have e2 : cv X c = .ref D := by unfold cv; rw [e]; rfl
  rw [e2] at hz
  exact ⟨D, e, call_isE C hz hf, call_isET C hz hf⟩
def NmC (mg : Str → Option Value) (T : Str) (u : Value) : Prop := (∃ E, u = .ref E ∧ mg T = some (.ref E)) ∨ (∃ Tn, u = .type Tn ∧ mg T = none ∧ bootBuiltins T = some (.type Tn))
def IsM (K : PySem.W.Frag) (mg : Str → Option Value) (c T : Str) (b : Bool) : Prop := ∃ u, NmC mg T u ∧ PySem.W.kitOne K ((mg c).getD .none) u = some b
theorem isM_of {K : PySem.W.Frag} {mg : Str → Option Value} {c T : Str} {b : Bool} (x : ExC K mg T) (m : ExM K mg c T b) (r : ExM K mg c c true) : IsM K mg c T b := by
  obtain ⟨E, gE, _⟩ := x
  refine ⟨.ref E, .inl ⟨E, rfl, gE⟩, ?_⟩
  unfold ExM at m r
  rw [gE] at m
  have e0 : ∀ {x y : Value} {b : Bool}, PySem.W.exmOne K x y = some b → PySem.W.kitCls K x y = some b := fun {x y b} h => by
    unfold PySem.W.exmOne at h
    split at h
    · exact h
    · cases h
  unfold PySem.W.kitOne
  by_cases q : ((mg c).getD .none == Value.ref E) = true
  · rw [if_pos q]
    have e := beq_iff_eq.mp q
    rw [e] at m r
    have := e0 r
    have := e0 m
    simp_all [Option.getD]
  · rw [if_neg q]; exact e0 m
theorem isM_ty {K : PySem.W.Frag} {mg : Str → Option Value} {c T : Str} {Tn : String} {C : Addr} {b : Bool} (g : mg c = some (.ref C)) (n : mg T = none) (hb : bootBuiltins T = some (.type Tn)) (hk : PySem.W.kitMeta Tn = true) (s : PySem.W.subIn K (.ref C) (.type Tn) = some b) : IsM K mg c T b := by
  refine ⟨.type Tn, .inr ⟨Tn, rfl, n, hb⟩, ?_⟩
  rw [g]
  unfold PySem.W.kitOne
  have e : ((some (Value.ref C)).getD .none == Value.type Tn) = false := rfl
  rw [e, if_neg Bool.false_ne_true]
  unfold PySem.W.kitCls
  dsimp only
  rw [if_pos hk]; exact s
def IsA (K : PySem.W.Frag) (mg : Str → Option Value) (ks : List Str) (T : Str) (tk : List Str) : Prop := ∀ c ∈ ks, IsM K mg c T (decide (c ∈ tk))
theorem isa_nil {K : PySem.W.Frag} {mg : Str → Option Value} {T : Str} {tk : List Str} : IsA K mg [] T tk := fun c h => absurd h List.not_mem_nil
theorem isa_cons {K : PySem.W.Frag} {mg : Str → Option Value} {T : Str} {tk : List Str} {c : Str} {ks : List Str} {b : Bool} (e : IsM K mg c T b) (r : IsA K mg ks T tk) (hb : decide (c ∈ tk) = b := by decide) : IsA K mg (c :: ks) T tk := fun x hx => by
  rcases List.mem_cons.mp hx with rfl | hx
  · rw [hb]; exact e
  · exact r x hx
section
variable {X : Cx} {W : WX} {i : Nat} {a : Addr} {e e1 e2 : Expr} {pos : Pos} {c : Str} {ks : List Str}
def EVe (X : Cx) (W : WX) (i : Nat) (a : Addr) (e : Expr) (f : M D) : Prop := ∀ (F : Fr) (ρ : Env) (σ : St) (B H : Hp) (Q : VK), σ[i]? = some (some (.ref a)) → Lv X.K F ρ σ B H →
  Post X W F σ B (f ρ) (fun d _ B' H' => ∀ v, Fz X.K B' v d → Q v H') → we X e σ H Q
def mIsE (c : Str) (tk : List Str) : M D := M.pure (.bl (decide (c ∈ tk)))
theorem pe_nmC {T : Str} {u : Value} {p2 : Pos} (h : NmC X.mg T u) (hgT : Gl X T) (hn : T ≠ "__name__") (hd : (T == ("__debug__" : Str)) = false) : ∃ v, ClsV v u ∧ PE X (.Name T p2) (tC v) := by
  rcases h with ⟨E, rfl, g⟩ | ⟨Tn, rfl, n, b⟩
  · exact ⟨.ref E, .own E, pe_glob hgT g rfl hd⟩
  · exact ⟨.ty Tn, .ty Tn, pe_bltn hgT n b rfl hn hd⟩
theorem eve_is {x T : Str} {tk : List Str} {px p2 p : Pos} (hH : Hld X a c) (hm : X.mg "isinstance" = none) (A : IsA X.K X.mg ks T tk) (hc : c ∈ ks) (hi : X.N[i]? = some x := by rfl) (hv : Vis X.env.scope x := by first | exact Or.inl rfl | exact Or.inr (Or.inl rfl) | exact Or.inr (Or.inr rfl)) (hdx : (x == ("__debug__" : Str)) = false := by decide)
    (hcd : (x == ("__classdict__" : Str)) = false := by decide) (hg : Gl X "isinstance" := by rfl) (hgT : Gl X T := by rfl) (hn : T ≠ "__name__" := by decide) (hd : (T == ("__debug__" : Str)) = false := by decide)
    (he : starEach (.Name x px :: [.Name T p2]) X.env = (false, eval (.Name x px) X.env) :: starEach [.Name T p2] X.env := by rfl) (he2 : starEach (.Name T p2 :: []) X.env = (false, eval (.Name T p2) X.env) :: starEach [] X.env := by rfl) (hpl : (backTo pos (starEach [.Name T p2] X.env)).any (·.1) = false := by rfl) :
    EVe X W i a (.Call (.Name "isinstance" p) [.Name x px, .Name T p2] [] pos) (mIsE c tk) := by
  intro F ρ σ B H Q hs L P
  obtain ⟨D, gD, c1, _⟩ := hH
  obtain ⟨u, nu, ku⟩ := A c hc
  obtain ⟨v, cl, pT⟩ := pe_nmC (p2 := p2) nu hgT hn hd
  refine PE.we (pe_callB c1 hg hm (by decide +kernel) (pa_cons (pe_var hi hv hdx hcd) (pa_cons pT pa_nil he2) he) (by decide) (by decide) he hpl) ?_
  rw [gD] at ku
  refine ⟨.ref a, hs, v, u, _, rfl, fun w r => cl.eq r, ku, ?_⟩
  exact P B H (Ex.refl _) L _ (.bl _)
theorem eve_one {op : BoolOp} {f : M D} (h : EVe X W i a e f) : EVe X W i a (.BoolOp op [e] pos) f := fun F ρ σ B H Q hs L P => PE.we (pe_one pe_we) (h F ρ σ B H Q hs L P)
theorem eve_and {rest : List Expr} {f g : M D} (ha : EVe X W i a e1 f) (hb : EVe X W i a (.BoolOp .And (e2 :: rest) pos) g) : EVe X W i a (.BoolOp .And (e1 :: e2 :: rest) pos) (mAndV f g) := by
  intro F ρ σ B H Q hs L P
  refine PE.we (pe_and pe_we pe_we) ?_
  refine ha F ρ σ B H _ hs L ((Post.bind P).imp fun d ρ1 B1 H1 e1 L1 P1 v fv => ?_)
  split at P1
  · cases fv
    exact ⟨true, rfl, by rw [if_pos rfl]; exact hb F ρ1 σ B1 H1 Q hs L1 P1⟩
  · cases fv
    exact ⟨false, rfl, by rw [if_neg Bool.false_ne_true]; exact P1 B1 H1 (Ex.refl _) L1 _ (.bl false)⟩
  · exact P1.elim
def PostE (X : Cx) (W : WX) (F : Fr) (B : Hp) (i : Nat) (a : Addr) (r : Rs Fl) (N : Ends) : Prop :=
  match r with
  | .ok .nx ρ' => ∀ σ' B' H', Ex B B' → σ'[i]? = some (some (.ref a)) → Lv X.K F ρ' σ' B' H' → N.nx σ' H'
  | r => PostS X W F B r N
theorem PostE.weak {F : Fr} {B B1 : Hp} {r : Rs Fl} {N : Ends} (h : PostE X W F B i a r N) (e : Ex B B1) : PostE X W F B1 i a r N := by
  cases r with
  | ok fl ρ =>
    cases fl with
    | nx => exact fun σ' B' H' e' q L => h σ' B' H' (e.trans e') q L
    | bk => exact PostS.weak (X := X) (W := W) (N := N) (r := .ok .bk ρ) h e
    | ct => exact PostS.weak (X := X) (W := W) (N := N) (r := .ok .ct ρ) h e
    | rt d o => exact PostS.weak (X := X) (W := W) (N := N) (r := .ok (.rt d o) ρ) h e
  | rz c ρ => exact PostS.weak (X := X) (W := W) (N := N) (r := .rz c ρ) h e
  | fail => exact h
theorem PostE.bind {F : Fr} {B : Hp} {σ : St} {α : Type} {ρ : Env} {f : M α} {g : α → M Fl} {N : Ends} (h : PostE X W F B i a (M.bind f g ρ) N) : Post X W F σ B (f ρ) (fun x ρ1 B1 _ => PostE X W F B1 i a (g x ρ1) N) := by
  unfold M.bind at h
  cases q : f ρ with
  | ok x ρ' => rw [q] at h; exact fun B' H' e L => PostE.weak h e
  | rz c ρ' => rw [q] at h; exact fun B' H' e L => h σ B' H' e L
  | fail => rw [q] at h; exact h
def SVe (X : Cx) (W : WX) (i : Nat) (a : Addr) (st : Stmt) (f : M Fl) : Prop := ∀ (F : Fr) (ρ : Env) (σ : St) (B H : Hp) (N : Ends), σ[i]? = some (some (.ref a)) → Lv X.K F ρ σ B H → PostE X W F B i a (f ρ) N → ws X st N σ H
def SVes (X : Cx) (W : WX) (i : Nat) (a : Addr) (sts : List Stmt) (f : M Fl) : Prop := ∀ (F : Fr) (ρ : Env) (σ : St) (B H : Hp) (N : Ends), σ[i]? = some (some (.ref a)) → Lv X.K F ρ σ B H → PostE X W F B i a (f ρ) N → wss X sts N σ H
theorem sves_one {st : Stmt} {f : M Fl} (h1 : SVe X W i a st f) : SVes X W i a [st] f := fun F ρ σ B H N hs L P => PSs.wss (pss_one ps_ws) (h1 F ρ σ B H N hs L P)
def EOe (X : Cx) (W : WX) (i : Nat) (a : Addr) (e : Expr) (f : M (D × Ob)) : Prop := ∀ (F : Fr) (ρ : Env) (σ : St) (B H : Hp) (Q : VK), σ[i]? = some (some (.ref a)) → Lv X.K F ρ σ B H →
  Post X W F σ B (f ρ) (fun p ρ' B' H' => ∀ v, VO X.K F ρ' σ B' H' v p.1 p.2 → Q v H') → we X e σ H Q
theorem eoe_of {f : M D} (h : EVe X W i a e f) : EOe X W i a e (mOf f) := by
  intro F ρ σ B H Q hs L P
  exact h F ρ σ B H Q hs L ((Post.bind P).imp fun d ρ1 B1 H1 e1 L1 P1 v w => P1 B1 H1 (Ex.refl _) L1 v w)
theorem sve_ret {f : M (D × Ob)} (he : EOe X W i a e f) : SVe X W i a (.Return (some e) pos) (mRet f) := by
  intro F ρ σ B H N hs L P
  refine PS.ws (ps_ret pe_we) ?_
  exact he F ρ σ B H _ hs L ((PostE.bind P).imp fun p ρ1 B1 H1 e1 L1 P1 v w => P1 v σ B1 H1 (Ex.refl _) L1 w)
end
end Dt
namespace Dt
open PySem PySem.Spec PyProof.Rows L2
section
variable {X : Cx} {W : WX} {O : Fr → Prop} {e : Expr} {pos : Pos} {st : Stmt} {rest : List Stmt} {tg : Expr}
def Lw (K : PySem.W.Frag) (O : Fr → Prop) (ρ : Env) (σ : St) (B H : Hp) : Prop := ∃ F, O F ∧ Lv K F ρ σ B H
def PostT (X : Cx) (W : WX) (O : Fr → Prop) (B : Hp) (r : Rs Fl) (N : Ends) : Prop :=
  match r with
  | .ok .nx ρ' => ∀ σ' B' H', Ex B B' → Lw X.K O ρ' σ' B' H' → N.nx σ' H'
  | .ok .bk ρ' => ∀ σ' B' H', Ex B B' → Lw X.K O ρ' σ' B' H' → N.bk σ' H'
  | .ok .ct ρ' => ∀ σ' B' H', Ex B B' → Lw X.K O ρ' σ' B' H' → N.ct σ' H'
  | .ok (.rt d o) ρ' => ∀ v σ' B' H', Ex B B' → (∃ F, O F ∧ Lv X.K F ρ' σ' B' H' ∧ VO X.K F ρ' σ' B' H' v d o) → N.rt v H'
  | .rz c ρ' => ∀ σ' B' H', Ex B B' → Lw X.K O ρ' σ' B' H' → W (cv X c) none σ' H'
  | .fail => False
theorem PostT.s {F : Fr} {B : Hp} {r : Rs Fl} {N : Ends} (h : PostT X W O B r N) (o : O F) : PostS X W F B r N := by
  cases r with
  | ok a ρ' =>
    cases a with
    | nx => exact fun σ' B' H' e L => h σ' B' H' e ⟨F, o, L⟩
    | bk => exact fun σ' B' H' e L => h σ' B' H' e ⟨F, o, L⟩
    | ct => exact fun σ' B' H' e L => h σ' B' H' e ⟨F, o, L⟩
    | rt d ob => exact fun v σ' B' H' e L w => h v σ' B' H' e ⟨F, o, L, w⟩
  | rz c ρ' => exact fun σ' B' H' e L => h σ' B' H' e ⟨F, o, L⟩
  | fail => exact h
theorem PostT.weak {B B1 : Hp} {r : Rs Fl} {N : Ends} (h : PostT X W O B r N) (e : Ex B B1) : PostT X W O B1 r N := by
  cases r with
  | ok a ρ' =>
    cases a with
    | nx => exact fun σ' B' H' e' L => h σ' B' H' (e.trans e') L
    | bk => exact fun σ' B' H' e' L => h σ' B' H' (e.trans e') L
    | ct => exact fun σ' B' H' e' L => h σ' B' H' (e.trans e') L
    | rt d o => exact fun v σ' B' H' e' L => h v σ' B' H' (e.trans e') L
  | rz c ρ' => exact fun σ' B' H' e' L => h σ' B' H' (e.trans e') L
  | fail => exact h
theorem PostT.bind {F : Fr} {B : Hp} {σ : St} {α : Type} {ρ : Env} {f : M α} {g : α → M Fl} {N : Ends} (h : PostT X W O B (M.bind f g ρ) N) (o : O F) : Post X W F σ B (f ρ) (fun a ρ1 B1 _ => PostT X W O B1 (g a ρ1) N) := by
  unfold M.bind at h
  cases q : f ρ with
  | ok a ρ' => rw [q] at h; exact fun B' H' e L => PostT.weak h e
  | rz c ρ' => rw [q] at h; exact fun B' H' e L => h σ B' H' e ⟨F, o, L⟩
  | fail => rw [q] at h; exact h
def TV (X : Cx) (W : WX) (O : Fr → Prop) (st : Stmt) (f : M Fl) : Prop := ∀ (ρ : Env) (σ : St) (B H : Hp) (N : Ends), Lw X.K O ρ σ B H → PostT X W O B (f ρ) N → ws X st N σ H
def TVs (X : Cx) (W : WX) (O : Fr → Prop) (sts : List Stmt) (f : M Fl) : Prop := ∀ (ρ : Env) (σ : St) (B H : Hp) (N : Ends), Lw X.K O ρ σ B H → PostT X W O B (f ρ) N → wss X sts N σ H
theorem tv_of {f : M Fl} (h : SV X W st f) : TV X W O st f := fun ρ σ B H N ⟨F, o, L⟩ P => h F ρ σ B H N L (P.s o)
theorem tvs_of {sts : List Stmt} {f : M Fl} (h : SVs X W sts f) : TVs X W O sts f := fun ρ σ B H N ⟨F, o, L⟩ P => h F ρ σ B H N L (P.s o)
theorem tvs_one {f : M Fl} (h1 : TV X W O st f) : TVs X W O [st] f := fun ρ σ B H N L P => PSs.wss (pss_one ps_ws) (h1 ρ σ B H N L P)
theorem tvs_cons {f g : M Fl} (h1 : TV X W O st f) (h2 : TVs X W O rest g) : TVs X W O (st :: rest) (mSeq f g) := by
  intro ρ σ B H N L P
  refine PSs.wss (pss_cons ps_ws pss_wss) ?_
  refine h1 ρ σ B H _ L ?_
  have P' : PostT X W O B (M.bind f _ ρ) N := P
  unfold M.bind at P'
  cases q : f ρ with
  | ok fl ρ1 =>
    rw [q] at P'
    cases fl with
    | nx => exact fun σ' B' H' e' L' => h2 ρ1 σ' B' H' N L' (PostT.weak P' e')
    | bk => exact P'
    | ct => exact P'
    | rt d o => exact P'
  | rz c ρ1 => rw [q] at P'; exact P'
  | fail => rw [q] at P'; exact P'
theorem tv_for {iter : Expr} {body : List Stmt} {is : List Nat} {f : M (List D)} {g : D → Env → Option Env} {b : M Fl} (hp : PassesOwn (model X.prog X.w) X.A X.env X.xe) (hc : X.calm = true) (hi : IV X W tg iter f) (hg : GV X tg is g) (hb : TVs X W O body b)
    (hs : ∀ x, foldedSetIterable iter X.env x = pure x := by intro _; rfl) : TV X W O (.For tg iter body [] pos) (mFor f g b) := by
  rintro ρ σ B H N ⟨F, o, L⟩ P
  refine PS.ws (ps_for hp hc pi_wi pg_wg pss_wss hs) ?_
  refine hi F ρ σ B H _ L ((PostT.bind P o).imp fun ds ρ1 B1 H1 e1 L1 P1 J hJ => ?_)
  refine ⟨fun i m σ' H' => m = ds.length - i ∧ i ≤ ds.length ∧ ∃ ρ' B', Lw X.K O ρ' σ' B' H' ∧ Ex B1 B' ∧ PostT X W O B' (mForL g b (ds.drop i) ρ') N, ⟨ds.length, by simp, Nat.zero_le _, ρ1, B1, ⟨F, o, L1⟩, Ex.refl _, P1⟩, ?_⟩
  rintro i m σ2 H2 ⟨rfl, hi2, ρ2, B2, ⟨F2, o2, L2⟩, e2, P2⟩
  by_cases hlt : i < ds.length
  · refine .inr ⟨hJ.go B2 H2 i e2 L2.ex hlt, fun σ' H' => ∃ ρ' B', Lw X.K O ρ' σ' B' H' ∧ Ex B1 B' ∧ PostT X W O B' (mForL g b (ds.drop (i + 1)) ρ') N, fun σ' H' q => ⟨ds.length - (i + 1), by omega, rfl, hlt, q⟩, fun x H3 hy => ?_⟩
    rw [List.drop_eq_getElem_cons hlt] at P2
    have hd : ds[i]? = some ds[i] := List.getElem?_eq_getElem hlt
    have fin : ∀ (B3 : Hp), Ex B2 B3 → Lv X.K F2 ρ2 σ2 B3 H3 → Fz X.K B3 x ds[i] → wg X tg x σ2 H3 (fun σ3 H4 => wss X body { nx := fun σ' H' => ∃ ρ' B', Lw X.K O ρ' σ' B' H' ∧ Ex B1 B' ∧ PostT X W O B' (mForL g b (ds.drop (i + 1)) ρ') N, rt := N.rt, bk := N.nx, ct := fun σ' H' => ∃ ρ' B', Lw X.K O ρ' σ' B' H' ∧ Ex B1 B' ∧ PostT X W O B' (mForL g b (ds.drop (i + 1)) ρ') N } σ3 H4) := by
      intro B3 e3 L3 fx
      refine hg F2 ρ2 σ2 B3 H3 x ds[i] _ L3 fx ?_
      have P3 : PostT X W O B2 (match g ds[i] ρ2 with | none => .fail | some ρ1 => M.bind b (fun fl => match fl with | .nx => mForL g b (ds.drop (i + 1)) | .ct => mForL g b (ds.drop (i + 1)) | .bk => mNx | .rt d o => M.pure (.rt d o)) ρ1) N := P2
      cases q : g ds[i] ρ2 with
      | none => rw [q] at P3; exact P3.elim
      | some ρ3 =>
        rw [q] at P3
        intro σ4 B4 H4 _ e4 L4
        refine hb ρ3 σ4 B4 H4 _ ⟨F2, o2, L4⟩ ?_
        have P4 := PostT.weak P3 (e3.trans e4)
        have P5 : PostT X W O B4 (M.bind b _ ρ3) N := P4
        unfold M.bind at P5
        cases q2 : b ρ3 with
        | ok fl ρ4 =>
          rw [q2] at P5
          cases fl with
          | nx => exact fun σ' B' H' e' L' => ⟨ρ4, B', L', ((e2.trans e3).trans e4).trans e', PostT.weak P5 e'⟩
          | ct => exact fun σ' B' H' e' L' => ⟨ρ4, B', L', ((e2.trans e3).trans e4).trans e', PostT.weak P5 e'⟩
          | bk => exact P5
          | rt d o => exact P5
        | rz c ρ4 => rw [q2] at P5; exact P5
        | fail => rw [q2] at P5; exact P5
    rcases hJ.yld B2 H2 i x H3 _ e2 L2.ex hy hd with ⟨rfl, fx⟩ | ⟨p, o, hp2, rfl, fx⟩ | ⟨p, xs, hp2, hp3, rfl, fx⟩
    · exact fin B2 (Ex.refl _) L2 fx
    · exact fin _ (Ex.new (L2.ex.nn hp2)) (L2.alloc hp2) fx
    · exact fin _ (Ex.new hp3) (L2.freezeT hp2 hp3) fx
  · have e : i = ds.length := by omega
    subst e
    rw [List.drop_length] at P2
    exact .inl ⟨hJ.stop B2 H2 _ e2 L2.ex (Nat.le_refl _), P2 σ2 B2 H2 (Ex.refl _) ⟨F2, o2, L2⟩⟩
end
end Dt
namespace Dt
open PySem PySem.Spec PyProof.Rows L2 LamX
def KpP (P : Addr) (H H1 : Hp) : Prop := ∀ b o, b ≠ P → H b = some o → H1 b = some o
abbrev lmQ (X : Cx) : Str := X.env.qual ++ "<lambda>"
abbrev lmCl (X : Cx) (sc : Scope) : List (Str × Addr) := cloFrom X.env.cells sc.names []
section
variable {K : PySem.W.Frag} {B H H1 : Hp} {P : Addr}
theorem OwS.isC {ρ : Env} {σ : St} {a : Addr} (h : OwS K B H ρ σ a) : ∃ o, H a = some o ∧ HO.isC o := by
  obtain ⟨i, s, v, S, q, hs, f, m⟩ := h
  exact f.isC a m
theorem Lv.tabs {F : Fr} {ρ : Env} {σ : St} {ps : Array Value} (L : Lv K F ρ σ B H) (nB : B P = none) (tb : H P = some (.tbl ps)) (e : KpP P H H1) : Lv K ⟨B, H1, OwS K B H ρ σ, F.P⟩ ρ σ B H1 := by
  have nP : ∀ a, OwS K B H ρ σ a → a ≠ P := fun a h z => by
    obtain ⟨o, h1, h2⟩ := h.isC
    rw [z, tb] at h1; injection h1 with h1; subst h1; exact h2
  have kp : ∀ {i : Nat} {s : Slot} {v : V} {S : List Addr}, ρ[i]? = some s → σ[i]? = some (some v) → Ft K B H v s S → Ft K B H1 v s S := fun {i s v S} q h f =>
    f.keep (Ex.refl _) (fun a m => (f.hid a m).1) fun a m o h1 => e a o (nP a ⟨i, s, v, S, q, h, f, m⟩) h1
  have up : ∀ {i : Nat} {s : Slot} {v : V} {S : List Addr}, ρ[i]? = some s → σ[i]? = some (some v) → Ft K B H1 v s S → Ft K B H v s S := fun {i s v S} q h f => by
    obtain ⟨v', S', h', f', _⟩ := L.own0 i s q f.owned
    rw [h] at h'; injection h' with h'; injection h' with h'; subst h'
    rw [f.det (kp q h f')]; exact f'
  refine ⟨fun a o q => e a o (fun z => by rw [z, nB] at q; cases q) (L.ex a o q), fun _ _ h _ => h, fun _ h => h, Ex.refl _, fun _ h _ _ => h, L.fz, fun i s q w => ?_, L.io, fun i j s t v w S T a e1 e2 q1 q2 f1 f2 m1 m2 => ?_, L.len⟩
  · obtain ⟨v, S, h, f, _⟩ := L.own0 i s q w
    exact ⟨v, S, h, kp q h f, fun a m => .inl ⟨i, s, v, S, q, h, f, m⟩⟩
  · exact L.ne0 i j s t v w S T a e1 e2 q1 q2 (up e1 q1 f1) (up e2 q2 f2) m1 m2
def wipeO (ρ : Env) : Env := ρ.map fun s => if owned s = true then .un else s
theorem Lv.wipeO {F : Fr} {ρ : Env} {σ : St} (L : Lv K F ρ σ B H) : Lv K ⟨B, H, fun _ => False, []⟩ (Dt.wipeO ρ) σ B H := by
  have g : ∀ {i : Nat} {s : Slot}, (Dt.wipeO ρ)[i]? = some s → owned s = false ∧ (s = .un ∨ ρ[i]? = some s) := fun {i s} q => by
    unfold Dt.wipeO at q
    rw [List.getElem?_map] at q
    cases h : ρ[i]? with
    | none => rw [h] at q; cases q
    | some t =>
      rw [h] at q
      injection q with q
      have q : (if owned t = true then Slot.un else t) = s := q
      cases z : owned t with
      | true => rw [z, if_pos rfl] at q; subst q; exact ⟨rfl, .inl rfl⟩
      | false => rw [z, if_neg (by simp)] at q; subst q; exact ⟨z, .inr rfl⟩
  refine ⟨L.ex, fun _ _ h _ => h, fun _ h => h, Ex.refl _, fun _ h _ _ => h, fun i d q => ?_, fun i s q w => ?_, fun i d q => ?_, fun i j s t v w S T a e1 e2 q1 q2 f1 f2 m1 m2 => ?_, ?_⟩
  · rcases (g q).2 with z | z
    · cases z
    · exact L.fz i d z
  · rw [(g q).1] at w; cases w
  · have := (g q).1; cases this
  · have := f1.owned; rw [(g e1).1] at this; cases this
  · unfold Dt.wipeO; rw [List.length_map]; exact L.len
theorem lv_un {ρ : Env} {σ : St} (ex : Ex B H) (hu : ∀ s ∈ ρ, s = Slot.un) (hl : ρ.length = σ.length) : Lv K ⟨B, H, fun _ => False, []⟩ ρ σ B H := by
  have u : ∀ {i : Nat} {s : Slot}, ρ[i]? = some s → s = .un := fun q => hu _ (List.mem_of_getElem? q)
  refine ⟨ex, fun _ _ h _ => h, fun _ h => h, Ex.refl _, fun _ h _ _ => h, fun i d q => ?_, fun i s q w => ?_, fun i d q => ?_, fun i j s t v w S T a e1 e2 q1 q2 f1 f2 m1 m2 => ?_, hl⟩
  · have := u q; cases this
  · rw [u q] at w; cases w
  · have := u q; cases this
  · rw [u e1] at f1; exact f1.elim
end
section
variable {X : Cx} {pins : List (Addr × Obj)} {σ : St} {H : Hp} {s : Shared}
theorem lam_mkP {c P : Addr} {par : Arguments} {bd : Expr} {sc : Scope} {pos : Pos} {E Q : Value → Shared → Prop} (I : Inv X pins σ H s) (TB : TabB X.base X.mg c P) (own : X.env.code = .ref c) (tab : TabS H P (lmQ X)) (nodef : defaultsOf par X.env = ([], [])) (fr : ∀ y ∈ sc.names, y.2 = .free → ∃ c, X.env.cells.lookup y.1 = some c)
    (k : ∀ (f cc : Addr) (pm ct : Value) (Z : Hp) (z : Shared), Inv X pins σ Z z → KpP P H Z → TabS Z P (lmQ X) → z.heap.get? f = some (PySem.W.kla_obj "<lambda>" (lmQ X) par bd sc (lmCl X sc) pm cc ct) → Z f = none → f ∉ frs X.stack → Z cc = some (CodeO cc (lmQ X)) → Q (.ref f) z) :
    wpAny (model X.prog X.w) X.A (eval (.Lambda par bd sc pos) X.env) Q E s := by
  obtain ⟨ps, isT, tri, amg⟩ := tab
  refine PySem.W.kla_eval nodef ?_
  have bi : s.heap.BuiltinsAt X.mg P := TB.bm.keeps I.bk
  have obP : s.heap.get? P = some { cls := .none, data := .fields ps } := I.hok P _ isT
  have notF : ∀ b, s.heap.objs.size ≤ b → b ∉ frs X.stack := fun b hb m => by
    rcases List.mem_cons.mp (I.stkSub _ m) with e | e
    · have := I.lt
      rw [← e] at this
      exact absurd hb (Nat.not_le.mpr this)
    · exact I.nofs hb e
  match q : codeAmong pos ps.toList with
  | none =>
    refine PySem.W.kla_makeFunction (mg := X.mg) (c := c) (P := P) (ps := ps) (closure_ok fr) I.ok.glob (I.mod.glob.keeps I.bk) own (TB.code.keeps I.bk) obP tri q TB.gP bi ?_
    intro cc ct hp tk ext ge lt rec_ tb
    obtain ⟨c2, oc, fs, t, e2, g1, g2, g3⟩ := rec_
    injection e2 with e2; subst e2
    have nC : H cc = none := I.hok.fresh ge
    have size : s.heap.objs.size ≤ hp.objs.size := Nat.le_trans ge (Nat.le_of_lt lt)
    have J := inv_table (q := lmQ X) (t' := tk) (more := #[rawInt pos.line, rawInt pos.col, .ref cc]) (h' := hp.push (PySem.W.kla_obj "<lambda>" (lmQ X) par bd sc (lmCl X sc) ((X.mg "__name__").getD .none) cc ct)) I isT
      (fun b o nb e => Heap.get?_push_of_some _ (ext b o nb e)) (Heap.get?_push_of_some _ tb) ge ⟨oc, fs, t, Heap.get?_push_of_some _ g1, g2, g3⟩
    have kp : KpP P H (upd (upd H P (.tbl (ps ++ #[rawInt pos.line, rawInt pos.col, .ref cc]))) cc (CodeO cc (lmQ X))) := fun b o nb e => by
      rw [upd_ne (ne_of_none e nC), upd_ne nb]; exact e
    have toL : (ps ++ #[rawInt pos.line, rawInt pos.col, .ref cc]).toList = ps.toList ++ [rawInt pos.line, rawInt pos.col, .ref cc] := by simp
    refine k hp.objs.size cc ((X.mg "__name__").getD .none) ct _ _ J kp ⟨_, by rw [upd_ne (ne_of_none isT nC), upd_same], by rw [toL]; exact PySem.TriplesOk_snoc _ _ _ _ tri, fun p2 v hv => ?_⟩ (Heap.get?_push_size _ rfl) ?_ (notF _ size) upd_same
    · rw [toL] at hv
      rcases among_app _ tri hv with m | m
      · obtain ⟨c0, e1, e3⟩ := amg p2 v m
        refine ⟨c0, e1, kp _ _ (fun z => ?_) e3⟩
        rw [z, isT] at e3; injection e3 with e3; exact codeO_ne _ e3.symm
      · exact ⟨cc, m, upd_same⟩
    · have nP : hp.objs.size ≠ P := Nat.ne_of_gt (Nat.lt_of_lt_of_le (Heap.lt_size obP) size)
      rw [upd_ne (Nat.ne_of_gt lt), upd_ne nP]
      exact I.hok.fresh size
  | some v =>
    obtain ⟨cc, e, isC⟩ := amg pos v q
    subst e
    refine PySem.W.kla_makeFunctionHit (mg := X.mg) (c := c) (P := P) (ps := ps) (closure_ok fr) I.ok.glob (I.mod.glob.keeps I.bk) own (TB.code.keeps I.bk) obP tri q bi ?_
    intro ct hp tk ext size
    have J : Inv X pins σ H { s with heap := hp.push (PySem.W.kla_obj "<lambda>" (lmQ X) par bd sc (lmCl X sc) ((X.mg "__name__").getD .none) cc ct), toks := tk } := I.kept fun b o e => Heap.get?_push_of_some _ (ext b o e)
    exact k hp.objs.size cc ((X.mg "__name__").getD .none) ct H _ J (fun _ _ _ e => e) ⟨ps, isT, tri, amg⟩ (Heap.get?_push_size _ rfl) (I.hok.fresh size) (notF _ size) isC
end
end Dt
namespace Dt
open PySem PySem.Spec PyProof.Rows L2 LamX
section
variable {X : Cx} {pins : List (Addr × Obj)} {σ : St} {H : Hp} {s : Shared}
def Bdy (X : Cx) (σ : St) (sc : Scope) (f cc : Addr) (k : Nat) (bd : Expr) (E : XK) (HZ : Hp) (Q : VK) : Prop :=
  ∀ (A : Around) (o : List PySem.Env) (z : Shared) (Hz : Hp), Quiet X.prog X.base (A.deeper (lamEnv X sc z.heap.objs.size f cc)) → Room k (A.deeper (lamEnv X sc z.heap.objs.size f cc)) → we (lamCx X A o z Hz E sc f cc) bd σ HZ Q
theorem pe_deed {C : CXT} {E0 : XK} {Ng : List Str} {qg : Str} {sg sc : Scope} {g f cc : Addr} {cd pm ct : Value} {par : Arguments} {bd : Expr} {k i : Nat} {y : Str} {pn : List (Addr × Obj)} {xe : Value → Shared → Prop} {W : WX} {p1 p2 : Pos} (I : Inv X pins σ H s) (Ls : LamS X.env.scope sc)
    (isF : s.heap.get? f = some (PySem.W.kla_obj "<lambda>" (lmQ X) par bd sc (lmCl X sc) pm cc ct)) (hidF : H f = none) (notFr : f ∉ frs X.stack) (bnd : bindArgs (PySem.W.kla_fn "<lambda>" (lmQ X) par bd sc (lmCl X sc) pm (.ref cc) ct) ⟨[], []⟩ = pure [])
    (tk : Takes ((cxOf C X.prog X.w X.K X.mg X.base Ng qg sg g cd X.A X.stack s H E0).tr pn xe) W) (qt : Quiet0 X.prog X.base X.A) (rm : Room (k + 1) (X.A.deeper (envOfC qg sg s.heap.objs.size g cd)))
    (iN : Ng[i]? = some y) (vis : Vis sg y) (nd : (y == ("__debug__" : Str)) = false) (nc : (y == ("__classdict__" : Str)) = false) :
    PE ((cxOf C X.prog X.w X.K X.mg X.base Ng qg sg g cd X.A X.stack s H E0).tr pn xe) (.Call (.Name y p1) [] [] p2)
      (fun σZ HZ Q => σZ[i]? = some (some (.ref f)) ∧ HZ cc = some (CodeO cc (lmQ X)) ∧ Bdy X σ sc f cc k bd (fun cls d H' => W cls d σZ H') HZ Q) := by
  constructor
  intro pz sz σZ HZ Q IZ h
  obtain ⟨at0, isC, go⟩ := h
  refine wpAny_Call_Name_kw (thn ((pe_var (pos := p1) (i := i) iN vis nd nc).run pz sz σZ HZ (fun v Z => v = .ref f ∧ Z = HZ) IZ ⟨_, at0, rfl, rfl⟩) ?_)
  rintro u z1 ⟨v, Z, I1, rv, ev, eZ⟩
  subst ev; subst eZ
  have eu : u = Value.ref f := rv
  subst eu
  have isF1 : z1.heap.get? f = some (PySem.W.kla_obj "<lambda>" (lmQ X) par bd sc (lmCl X sc) pm cc ct) := I1.base.keep f _ isF hidF notFr (fun m => nomatch (show f ∈ ([] : List Addr) from m))
  refine PySem.W.callWith_F0 ⟨_, _, _, _, isF1⟩ ?_
  have un : Un (frs X.stack) [] H Z s.heap z1.heap := I1.base
  have cO := (I1.hok cc _ isC).1
  obtain ⟨oc, fs, tt, c1, c2, c3⟩ := cO
  have e0 := I1.env0
  have run : codeAny (model X.prog X.w) (X.A.deeper (envOfC qg sg s.heap.objs.size g cd)) (.call (.ref f) ⟨[], []⟩) (CR (L2.CX X.prog X.w) (envOfC qg sg s.heap.objs.size g cd :: X.stack) X.prog X.w Z z1 Q (fun cls d H' => W cls d σZ H')) z1 := by
    refine PySem.W.kla_callFunE rm.depth isF1 rfl Ls.co Ls.gen rfl ⟨cc, oc, fs, tt, rfl, c1, c2, c3⟩ ?_
    rw [bnd]
    refine wpAny_pure (wpAny_newFunctionEnv (fun n hn => (Ls.own n hn).2) (fun n hn => nomatch hn) (fun hp ns sb => ⟨I1.nolimit.fresh _ sb, ?_⟩) Ls.kind)
    have kp : ∀ b o, z1.heap.get? b = some o → hp.get? b = some o := fun b o e => sb.extBut b o (Nat.ne_of_lt (Heap.lt_size e)) (Heap.get?_push_of_some _ e)
    have J := lam_start2 (E := fun cls d H' => W cls d σZ H') (f := f) (c' := cc) (tk := z1.toks + ([] : List (Str × Value)).length) I Ls e0 rm.hd un ns kp
    have q1 : Quiet X.prog X.base ((X.A.deeper (envOfC qg sg s.heap.objs.size g cd)).deeper (lamEnv X sc z1.heap.objs.size f cc)) := ⟨⟨qt.g, qt.s, qt.t⟩, _, _, Around.frames_deeper e0.frames, Ls.gen, Ls.co, rfl, rfl⟩
    show codeAny _ _ (.expr bd (lamEnv X sc z1.heap.objs.size f cc)) _ _
    refine PySem.W.kla_codeExpr (wpAny_mono (We.run (go _ _ z1 Z q1 (rm.deeper _)) [] _ J) ?_ (fun _ _ m => m))
    rintro r z2 ⟨v2, Z2, J2, r2, q2⟩
    exact ⟨v2, Z2, J2.os, J2.bare, J2.base, J2.hok, r2, q2⟩
  have pass := passAt tk σZ
  refine wpAny_call (codeAny_mono run ?_)
  rintro (er | (_ | _ | _ | u2)) z2 m
  · exact pass pz Z z1 er z2 I1 m
  · exact m.elim
  · exact m.elim
  · exact m.elim
  · exact I1.after m
abbrev xkN : XK := fun _ _ _ => False
theorem pe_lamT {x y : Str} {g c P : Addr} {k : Nat} {pg par : Arguments} {bg : List Stmt} {sg sc : Scope} {dV kV doc pm cd ct oc : Value} {an od : Option Addr} {osl : Array (Option Value)} {Ng : List Str} {bd : Expr} {p lp pos : Pos} (gl : Gl X x) (mx : X.mg x = some (.ref g)) (kp : PySem.W.keepIn X.K (.ref g) = true)
    (look : X.K.lookup g = some ⟨oc, od, .func (PySem.W.fnOf x x pg bg sg dV kV doc pm an cd ct), osl⟩) (code : PySem.W.codeIn X.K cd x = true) (bds : L2.Binds X.K (PySem.W.fnOf x x pg bg sg dV kV doc pm an cd ct) [y] []) (Sg : FnScope Ng [y] sg) (iN : Ng[0]? = some y) (vis : Vis sg y)
    (TB : TabB X.base X.mg c P) (own : X.env.code = .ref c) (rm : Room (k + 2) X.A) (qt : Quiet0 X.prog X.base X.A) (Ls : LamS X.env.scope sc) (nodef : defaultsOf par X.env = ([], []))
    (bnd : ∀ (q : Str) (cl : List (Str × Addr)) (pm cv ctv : Value), bindArgs (PySem.W.kla_fn "<lambda>" q par bd sc cl pm cv ctv) ⟨[], []⟩ = pure [])
    (ndx : (x == ("__debug__" : Str)) = false := by decide) (nd : (y == ("__debug__" : Str)) = false := by decide) (nc : (y == ("__classdict__" : Str)) = false := by decide) :
    PE X (.Call (.Name x p) [.Lambda par bd sc lp] [] pos) (fun σ H Q => TabS H P (lmQ X) ∧ ∀ H1, KpP P H H1 → TabS H1 P (lmQ X) → ∀ (f cc : Addr) (z : Shared), H1 cc = some (CodeO cc (lmQ X)) →
      (∀ (W : WX) (pn : List (Addr × Obj)) (xe : Value → Shared → Prop) (p1 p2 : Pos), Takes ((cxOf (L2.CX X.prog X.w) X.prog X.w X.K X.mg X.base Ng x sg g cd X.A X.stack z H1 xkN).tr pn xe) W →
        PE ((cxOf (L2.CX X.prog X.w) X.prog X.w X.K X.mg X.base Ng x sg g cd X.A X.stack z H1 xkN).tr pn xe) (.Call (.Name y p1) [] [] p2)
          (fun σZ HZ Q => σZ[0]? = some (some (.ref f)) ∧ HZ cc = some (CodeO cc (lmQ X)) ∧ Bdy X σ sc f cc k bd (fun cls d H' => W cls d σZ H') HZ Q)) →
      wss (cxOf (L2.CX X.prog X.w) X.prog X.w X.K X.mg X.base Ng x sg g cd X.A X.stack z H1 xkN) bg { nx := fun _ Z => Q .non Z, rt := Q } (L2.start Ng [.ref f]) H1) := by
  constructor
  intro pins s σ H Q I h
  obtain ⟨tabs, go⟩ := h
  refine wpAny_Call_Name_kw (ld_glob I gl mx (PySem.W.callWith_K (h₀ := X.base) I.ok.mod.kin kp ?_ (by rfl) (by rfl)) ndx)
  show wpAny _ _ (spliced ((false, eval (.Lambda par bd sc lp) X.env) :: backTo pos (starEach [] X.env))) _ _ s
  refine Calls.spliced_cons (lam_mkP I TB own tabs nodef (Ls.has I.ok) ?_)
  intro f cc pm2 ct2 Z z I1 eN T1 isF hidF nF isC
  refine Calls.spliced_nil ⟨I1.kIn, ?_⟩
  have run : codeAny (model X.prog X.w) X.A (.call (.ref g) ⟨[.ref f], []⟩) (CR (L2.CX X.prog X.w) X.stack X.prog X.w Z z Q xkN) z := by
    refine run_ofS (us := [.ref f]) (vs := [.ref f]) look code Sg rm I1.env0 (bds z [.ref f] I1.kIn rfl) (.cons rfl .nil) rfl (fun rm2 => ⟨_, pss_wss, ?_⟩)
    exact go Z eN T1 f cc z isC fun W pn xe p1 p2 tk => pe_deed I1 Ls isF hidF nF (bnd _ _ _ _ _) tk qt rm2 iN vis nd nc
  refine wpAny_call (codeAny_mono run ?_)
  rintro (er | (_ | _ | _ | u)) z2 m
  · obtain ⟨_, _, _, _, _, _, _, _, _, _, _, _, no⟩ := m
    exact no.elim
  · exact m.elim
  · exact m.elim
  · exact m.elim
  · exact I1.after m
end
end Dt
namespace Dt
open PySem PySem.Spec PyProof.Rows L2 LamX
def OkO (P : Addr) (q : Str) (F : Fr) : Prop := F.B0 P = none ∧ TabS F.H0 P q ∧ ∀ a, F.A a → ∀ o, F.H0 a = some o → HO.isC o
section
variable {K : PySem.W.Frag} {B H H1 : Hp} {P : Addr} {q : Str} {F : Fr} {ρ : Env} {σ : St}
theorem OkO.at (o : OkO P q F) (L : Lv K F ρ σ B H) : B P = none ∧ ∃ ps, H P = some (.tbl ps) ∧ TabS H P q := by
  obtain ⟨nB, ⟨ps, t1, t2, t3⟩, hA⟩ := o
  have nA : ¬ F.A P := fun z => hA P z _ t1
  have hP := L.kept P _ t1 nA
  refine ⟨L.hid P nB ⟨_, t1, fun xs z => nomatch z⟩ nA, ps, hP, ps, hP, t2, fun pos cv hc => ?_⟩
  obtain ⟨c, e1, e2⟩ := t3 pos cv hc
  exact ⟨c, e1, L.kept c _ e2 fun z => hA c z _ e2⟩
theorem OkO.next (L : Lv K F ρ σ B H) (nB : B P = none) {ps : Array Value} (hP : H P = some (.tbl ps)) (kp : KpP P H H1) (t : TabS H1 P q) : OkO P q ⟨B, H1, OwS K B H ρ σ, F.P⟩ := by
  refine ⟨nB, t, fun a z o h => ?_⟩
  obtain ⟨u, h1, h2⟩ := OwS.isC z
  have ne : a ≠ P := fun e => by rw [e, hP] at h1; injection h1 with h1; subst h1; exact h2
  have := kp a u ne h1
  rw [show H1 a = some o from h] at this
  injection this with this; subst this; exact h2
end
theorem Lv.crN {K : PySem.W.Frag} {B H B' H' : Hp} {ρ : Env} {σ : St} {Ps : List (Option Addr)} (L : Lv K ⟨B, H, fun _ => False, Ps⟩ ρ σ B' H') : Cr (fun _ => False) B H B' H' := ⟨L.ex, L.exB, L.kept, L.hid, L.there⟩
def mIfRef (ks : List Str) (dec : Str → Bool) (f : M D) : M Fl := fun ρ => match f (wipeO ρ) with
  | .rz c _ => if c ∈ ks ∧ dec c = true then .ok .nx ρ else .fail
  | _ => .fail
section
variable {X : Cx}
abbrev inCx (X : Cx) (Ng : List Str) (x : Str) (sg : Scope) (g : Addr) (cd : Value) (z : Shared) (H1 : Hp) : Cx := cxOf (L2.CX X.prog X.w) X.prog X.w X.K X.mg X.base Ng x sg g cd X.A X.stack z H1 xkN
abbrev wxN : WX := fun _ _ _ _ => False
theorem tv_ifref {W : WX} {ks tk : List Str} {dec : Str → Bool} {x y n ex : Str} {g c P : Addr} {k : Nat} {pg par : Arguments} {bg suite rest : List Stmt} {b₀ : Stmt} {sg sc : Scope} {dV kV doc pm cd ct oc : Value} {an od : Option Addr} {osl : Array (Option Value)} {Ng : List Str} {bd : Expr} {fE : M D} {kg : Str → M Fl} {sts : List Stmt}
    {p lp pos1 pos2 pos3 p1 p2 p3 np pos' pos4 : Pos} (gl : Gl X x) (mx : X.mg x = some (.ref g)) (kp : PySem.W.keepIn X.K (.ref g) = true)
    (look : X.K.lookup g = some ⟨oc, od, .func (PySem.W.fnOf x x pg bg sg dV kV doc pm an cd ct), osl⟩) (code : PySem.W.codeIn X.K cd x = true) (bds : L2.Binds X.K (PySem.W.fnOf x x pg bg sg dV kV doc pm an cd ct) [y] []) (Sg : FnScope Ng [y] sg) (iN : Ng[0]? = some y) (vis : Vis sg y)
    (TB : TabB X.base X.mg c P) (own : X.env.code = .ref c) (rm : Room (k + 2) X.A) (qt : Quiet0 X.prog X.base X.A) (Ls : LamS X.env.scope sc) (nodef : defaultsOf par X.env = ([], []))
    (bnd : ∀ (q : Str) (cl : List (Str × Addr)) (pm cv ctv : Value), bindArgs (PySem.W.kla_fn "<lambda>" q par bd sc cl pm cv ctv) ⟨[], []⟩ = pure [])
    (hbg : bg = .Try [.Expr (.Call (.Name y p1) [] [] p2) p3] [.ExceptHandler (some (.Name ex np)) (some n) (b₀ :: suite) pos'] [] [] pos4 :: rest) (iE : Ng[1]? = some n) (nl : Ng.length = 2)
    (hln : ∀ z H1, (inCx X Ng x sg g cd z H1).env.kindOf n = some .local) (hc : ExC X.K X.mg ex) (hgx : ∀ z H1, Gl (inCx X Ng x sg g cd z H1) ex) (hdx : (ex == ("__debug__" : Str)) = false) (ha : ExA X.K X.mg ks ⟨ex, tk, mNx⟩) (hxe : ∀ c ∈ ks, XeC X.K X.mg c) (hall : ∀ c ∈ ks, c ∈ tk)
    (hsu : ∀ z H1 c, c ∈ ks → ∀ a oe pn, Hld ((inCx X Ng x sg g cd z H1).suite a ((a, oe) :: pn)) a c → SVes ((inCx X Ng x sg g cd z H1).suite a ((a, oe) :: pn)) wxN 1 a (b₀ :: suite) (kg c))
    (hk : ∀ c ∈ ks, ∃ ρ', kg c [.un, .un] = .ok (.rt (.bl (dec c)) .ff) ρ')
    (hE : ∀ (f cc : Addr) (A : Around) (o : List PySem.Env) (z : Shared) (Hz : Hp) (E : XK), Quiet X.prog X.base (A.deeper (lamEnv X sc z.heap.objs.size f cc)) → Room k (A.deeper (lamEnv X sc z.heap.objs.size f cc)) → EV (lamCx X A o z Hz E sc f cc) (fun cls d _ H => E cls d H) bd fE)
    (hsi : ∀ z H1, swapsWith (.Call (.Name y p1) [] [] p2) none p3.line (inCx X Ng x sg g cd z H1).env = pure false := by intro _ _; rfl)
    (ndx : (x == ("__debug__" : Str)) = false := by decide) (nd : (y == ("__debug__" : Str)) = false := by decide) (nc : (y == ("__classdict__" : Str)) = false := by decide)
    (hw : ∀ whole, isTrue (.Call (.Name x p) [.Lambda par bd sc lp] [] pos1) X.env whole = (do let v ← whole; standAt pos1; holding [v] (truthy v)) := by intro _; rfl) :
    TV X W (OkO P (lmQ X)) (.If (.UnaryOp .Not (.Call (.Name x p) [.Lambda par bd sc lp] [] pos1) pos2) sts [] pos3) (mIfRef ks dec fE) := by
  rintro ρ σ B H N ⟨F, o, L⟩ Po
  unfold mIfRef at Po
  cases q : fE (wipeO ρ) with
  | ok d ρz => rw [q] at Po; exact Po.elim
  | fail => rw [q] at Po; exact Po.elim
  | rz cls ρz =>
  rw [q] at Po
  dsimp only at Po
  by_cases hck : cls ∈ ks ∧ dec cls = true
  case neg => rw [if_neg hck] at Po; exact Po.elim
  rw [if_pos hck] at Po
  obtain ⟨hm, hdec⟩ := hck
  obtain ⟨nB, ps, hP, tab⟩ := o.at L
  obtain ⟨C, gC, _⟩ := id hc
  refine PS.ws (ps_if (pt_not (pt_val (pe_lamT gl mx kp look code bds Sg iN vis TB own rm qt Ls nodef bnd ndx nd nc) hw)) pss_wss pss_nil) ?_
  refine ⟨tab, fun H1 kpP tab1 f cc z isC deed => ?_⟩
  have L1 := L.tabs nB hP kpP
  have o1 : OkO P (lmQ X) ⟨B, H1, OwS X.K B H ρ σ, F.P⟩ := OkO.next L nB hP kpP tab1
  have Lw := L1.wipeO
  subst hbg
  refine PSs.wss (pss_cons ps_ws pss_wss) ?_
  refine PS.ws (ps_try_as (Wout := wxN) (i := 1) (c := .ref C) (ts := fun a cls d N σ H => ∀ (oe : Obj) (pn : List (Addr × Obj)), Zc cls d oe → (∃ vs, oe.data = .fields vs) → wss ((inCx X Ng x sg g cd z H1).suite a ((a, oe) :: pn)) (b₀ :: suite) N σ H)
    (tb := fun W2 D σ H => ∀ (pn : List (Addr × Obj)) (xe : Value → Shared → Prop), Takes ((inCx X Ng x sg g cd z H1).tr pn xe) W2 → wss ((inCx X Ng x sg g cd z H1).tr pn xe) [.Expr (.Call (.Name y p1) [] [] p2) p3] D σ H)
    rfl rfl Sg.nd iE (hln z H1) ⟨hgx z H1, hdx, .inl gC⟩ LamX.takes0
    (fun W2 pn xe t2 _ => ⟨fun pins s σ H N I h => Wss.run (h pn xe t2) pins s I⟩) (fun a oe cls d pn zc v => ⟨fun pins s σ H N I h => Wss.run (h oe pn zc v) pins s I⟩)) ?_
  intro pn xe t2
  refine PSs.wss (pss_one (ps_expr (deed _ pn xe p1 p2 t2) (hsi z H1))) ?_
  refine ⟨rfl, isC, fun A o2 z2 Hz qt2 rm2 => ?_⟩
  refine hE f cc A o2 z2 Hz _ qt2 rm2 _ (wipeO ρ) σ B H1 _ Lw ?_
  rw [q]
  intro B' H' e' L'
  have ea := ha cls hm
  unfold ExM at ea
  rw [gC] at ea
  have dt : decide (cls ∈ tk) = true := decide_eq_true (hall cls hm)
  refine ⟨_, ea, fun _ a _ oe pn2 zc v => ?_, fun hb => by rw [dt] at hb; cases hb⟩
  have hl := hld_of (X := inCx X Ng x sg g cd z H1) (a := a) (pn := pn2) (hxe cls hm) zc v
  obtain ⟨ρ', hk'⟩ := hk cls hm
  have l2 : (L2.start Ng [V.ref f]).length = 2 := by
    unfold L2.start
    rw [List.length_append, List.length_map, List.length_replicate, nl]; rfl
  have Li : Lv X.K ⟨B', H', fun _ => False, []⟩ [Slot.un, Slot.un] ((L2.start Ng [V.ref f]).set 1 (some (.ref a))) B' H' := lv_un L'.ex (by simp) (by rw [List.length_set, l2]; rfl)
  refine hsu z H1 cls hm a oe pn2 hl _ [.un, .un] _ B' H' _ (List.getElem?_set_self (by rw [l2]; decide)) Li ?_
  rw [hk', hdec]
  intro w σ3 B3 H3 e3 L3 vo
  cases (show Fz X.K B3 w (.bl true) from vo)
  refine ⟨true, rfl, ?_⟩
  have c1 := L'.crN
  have c2 := L3.crN
  have no : ∀ {ρ : Env} {σ : St} {B H : Hp}, ∀ b : Addr, (fun _ : Addr => False) b → ¬ OwS X.K B H ρ σ b := fun _ z => z.elim
  have La := L1.callN c1 (fun _ z => z.elim) no
  have Lb := La.callN c2 (fun _ z => z.elim) no
  exact Po σ B3 H3 (e'.trans e3) ⟨_, o1, Lb⟩
end
end Dt
namespace Dt.Hk
open PySem PySem.Spec PyProof.Rows L2 Dt
open PySem.W (nsIn fnOf codeIn keepIn)
theorem eqB_ok {a : Option Bool} {b : Bool} (h : eqB a (some b) = true) : a = some b := by
  cases a with
  | none => cases h
  | some x =>
    have e : x = b := eq_of_beq h
    rw [e]
theorem isBn_ok {o : Option (Option Value)} {x : String} (h : isBn o x = true) : o = some (some (.builtin x)) := by
  cases o with
  | none => cases h
  | some o =>
    cases o with
    | none => cases h
    | some v =>
      cases v with
      | builtin y =>
        have e : y = x := eq_of_beq h
        rw [e]
      | _ => cases h
theorem isNo_ok {o : Option (Option Value)} (h : isNo o = true) : o = some none := by
  cases o with
  | none => cases h
  | some o =>
    cases o with
    | none => rfl
    | some v => cases h
theorem isTy_ok {o : Option Value} {x : String} (h : isTy o x = true) : o = some (.type x) := by
  cases o with
  | none => cases h
  | some v =>
    cases v with
    | type y =>
      have e : y = x := eq_of_beq h
      rw [e]
    | _ => cases h
theorem encV_of {v : Value} {x : Str} (h : v.isStr x = true) : encV v = enc x := by
  cases v with
  | str s t =>
    have e : s = x := by
      have h1 : (s == x) = true := h
      exact eq_of_beq h1
    rw [e]; rfl
  | _ => cases h
theorem tblK_eq {α : Type} : ∀ (es : List DictEntry) (k : List (Nat × DictEntry) → α), tblK es k = k (tbl es)
  | [], k => rfl
  | e :: r, k => by
    unfold tblK
    rw [HandSHeadRun.frNat_eq, tblK_eq r]
    rfl
theorem lkT_some {x : Str} {e : DictEntry} (hx : e.key.isStr x = true) : ∀ es : List DictEntry, lkT (enc x) (tbl es) = some e → es.find? (·.key.isStr x) = some e ∧ e ∈ es
  | [], h => by cases h
  | a :: r, h => by
    have h1 : (match Nat.beq (encV a.key) (enc x) with
      | true => some a
      | false => lkT (enc x) (tbl r)) = some e := h
    cases q : Nat.beq (encV a.key) (enc x) with
    | true =>
      rw [q] at h1
      have ea : a = e := Option.some.inj h1
      subst ea
      exact ⟨by rw [List.find?_cons, hx], List.mem_cons_self⟩
    | false =>
      rw [q] at h1
      obtain ⟨h2, h3⟩ := lkT_some hx r h1
      have n : a.key.isStr x = false := by
        cases z : a.key.isStr x with
        | false => rfl
        | true =>
          rw [encV_of z] at q
          have : Nat.beq (enc x) (enc x) = true := Nat.beq_refl _
          rw [this] at q
          cases q
      exact ⟨by rw [List.find?_cons, n]; exact h2, List.mem_cons_of_mem _ h3⟩
theorem lkT_none {x : Str} : ∀ es : List DictEntry, lkT (enc x) (tbl es) = none → es.find? (·.key.isStr x) = none
  | [], _ => rfl
  | a :: r, h => by
    have h1 : (match Nat.beq (encV a.key) (enc x) with
      | true => some a
      | false => lkT (enc x) (tbl r)) = none := h
    cases q : Nat.beq (encV a.key) (enc x) with
    | true => rw [q] at h1; cases h1
    | false =>
      rw [q] at h1
      have n : a.key.isStr x = false := by
        cases z : a.key.isStr x with
        | false => rfl
        | true =>
          rw [encV_of z] at q
          have : Nat.beq (enc x) (enc x) = true := Nat.beq_refl _
          rw [this] at q
          cases q
      rw [List.find?_cons, n]
      exact lkT_none r h1
theorem frG_mem {g : Addr → Option Obj} {a : Addr} : ∀ as : List Addr, a ∈ as → (He.frG g as).lookup a = g a
  | [], h => by cases h
  | b :: r, h => by
    unfold He.frG
    rw [List.filterMap_cons]
    cases hb : g b with
    | none =>
      rcases List.mem_cons.mp h with rfl | hr
      · rw [hb]
        show (He.frG g r).lookup a = none
        cases q : (He.frG g r).lookup a with
        | none => rfl
        | some o => rw [He.frG_at r q] at hb; cases hb
      · exact frG_mem r hr
    | some o =>
      show List.lookup a ((b, o) :: He.frG g r) = g a
      rw [List.lookup_cons]
      cases q : a == b with
      | true =>
        have e : a = b := eq_of_beq q
        rw [e, hb]
      | false =>
        rcases List.mem_cons.mp h with rfl | hr
        · rw [beq_self_eq_true] at q; cases q
        · exact frG_mem r hr
theorem asK_main {g : Addr → Option Obj} : mainGlobals ∈ asK g := List.mem_append_left _ List.mem_cons_self
theorem asK_r1 {g : Addr → Option Obj} {e : DictEntry} {f : Addr} (he : e ∈ glE g) (hv : e.val = .ref f) : f ∈ r1 (glE g) := List.mem_flatMap.mpr ⟨e, he, by rw [hv]; exact List.mem_singleton.mpr rfl⟩
theorem asK_1 {g : Addr → Option Obj} {f : Addr} (h : f ∈ r1 (glE g)) : f ∈ asK g := List.mem_append_right _ (List.mem_append_left _ h)
theorem asK_2 {g : Addr → Option Obj} {f c : Addr} {o : Obj} (h : f ∈ r1 (glE g)) (ho : g f = some o) (hc : c ∈ He.refsO o) : c ∈ asK g := List.mem_append_right _ (List.mem_append_right _ (List.mem_flatMap.mpr ⟨f, h, by rw [ho]; exact hc⟩))
theorem glE_at {g : Addr → Option Obj} {e : DictEntry} (h : e ∈ glE g) : ∃ c d es n sl, g mainGlobals = some ⟨c, d, .dict es n, sl⟩ ∧ glE g = es.toList := by
  have k : glE g = glE g := rfl
  unfold glE at h k
  cases q : g mainGlobals with
  | none => rw [q] at h; cases h
  | some o =>
    obtain ⟨c, d, dt, sl⟩ := o
    rw [q] at h
    cases dt with
    | dict es n => exact ⟨c, d, es, n, sl, rfl, by unfold glE; rw [q]⟩
    | _ => cases h
def FnK (K : PySem.W.Frag) (q : Str × Str × Stmt) : Prop := ∃ f fd, nsIn K mainGlobals q.1 = some (some (.ref f)) ∧ Fun K q.2.1 q.2.1 q.2.2 f fd
theorem fnK_of {g : Addr → Option Obj} {q : Str × Str × Stmt} (hb : fnB g (tbl (glE g)) q = true) (ho : fnO g (tbl (glE g)) q = fnV q) : FnK (KG g) q := by
  unfold fnB at hb
  unfold fnO at ho
  rw [HandSHeadRun.frNat_eq] at hb ho
  cases e1 : lkT (enc q.1) (tbl (glE g)) with
  | none => rw [e1] at hb; cases hb
  | some e =>
    rw [e1] at hb ho
    obtain ⟨hk, hb⟩ := He.ba hb
    obtain ⟨hf, hm⟩ := lkT_some hk _ e1
    obtain ⟨c0, d0, es, n0, sl0, hg, hes⟩ := glE_at hm
    cases e2 : e.val with
    | ref f =>
      rw [e2] at hb
      simp only [e2] at ho
      replace hb : (match g f with
        | some ⟨_, _, .func fd, _⟩ => codeG g fd.code q.2.1
        | _ => false) = true := hb
      have m1 : f ∈ r1 (glE g) := asK_r1 hm e2
      have hns : nsIn (KG g) mainGlobals q.1 = some (some (.ref f)) := by
        unfold nsIn
        rw [frG_mem _ asK_main, hg]
        rw [hes] at hf
        simp only [hf, e2]
      cases e3 : g f with
      | none => rw [e3] at hb; cases hb
      | some o =>
        obtain ⟨oc, od, dt, osl⟩ := o
        rw [e3] at hb ho
        cases dt with
        | func fd =>
          obtain ⟨m1_, m2_, m3_, m4_, m5_, m6_, m7_, m8_, m9_, m10_, m11_, m12_, m13_, m14_, m15_⟩ := fd
          have e4 : (some (m1_, m2_, m3_, m4_, m5_, m6_, m7_, m8_, m15_) : FnO) = some (q.2.1, q.2.1, defArgs q.2.2, .stmts (defBody q.2.2), defScope q.2.2, mainGlobals, [], .none, builtinsNs) := ho
          simp only [Option.some.injEq, Prod.mk.injEq] at e4
          obtain ⟨h1, h2, h3, h4, h5, h6, h7, h8, h9⟩ := e4
          have hb' : codeG g m13_ q.2.1 = true := hb
          have lk : (KG g).lookup f = g f := frG_mem _ (asK_1 m1)
          cases m13_ with
          | ref c =>
            have m2 : c ∈ asK g := asK_2 m1 e3 (by
              unfold He.refsO
              refine List.mem_append_right _ (List.mem_append_left _ ?_)
              exact List.mem_singleton.mpr rfl)
            have hc : codeIn (KG g) (.ref c) q.2.1 = true := by
              have lc : (KG g).lookup c = g c := frG_mem _ m2
              unfold codeIn
              simp only [lc]
              exact hb'
            have kp : keepIn (KG g) (.ref f) = true := by
              unfold keepIn
              simp only [lk, e3]
            subst h1 h3 h4 h5 h6 h7 h8 h9
            refine ⟨f, _, hns, fun_mk (kV := m9_) (doc := m10_) (pm := m11_) (an := m12_) (cdv := .ref c) (ct := m14_) (oc := oc) (od := od) (osl := osl) ?_ hc kp⟩
            rw [lk, e3, ← h2]
          | _ => cases hb'
        | _ => cases hb
    | _ => rw [e2] at hb; cases hb
structure Says (Q : Qs) (K : PySem.W.Frag) : Prop where
  fn : ∀ q ∈ Q.fns, FnK K q
  fr : ∀ x ∈ Q.frees, nsIn K mainGlobals x = some none
  ck : Q.ckK K = true
section
variable {Q : Qs} {K : PySem.W.Frag} {h : Heap} {mg : Str → Option Value}
theorem nsRef {x : Str} {P : Addr → Bool} (c : (match nsIn K mainGlobals x with
  | some (some (.ref C)) => P C
  | _ => false) = true) : ∃ C, nsIn K mainGlobals x = some (some (.ref C)) ∧ P C = true := by
  cases e : nsIn K mainGlobals x with
  | none => rw [e] at c; cases c
  | some o =>
    rw [e] at c
    cases o with
    | none => cases c
    | some v =>
      cases v with
      | ref C => exact ⟨C, rfl, c⟩
      | _ => cases c
theorem Qs.fn' (X : K.In h) (G : h.Ns mainGlobals mg) (c : Says Q K) (i : Nat) {y x : Str} {st : Stmt} (hi : Q.fns[i]? = some (y, x, st) := by rfl) : ∃ f fd, Fun K x x st f fd ∧ mg y = some (.ref f) := by
  obtain ⟨f, fd, e, F⟩ := c.fn _ (List.mem_of_getElem? hi)
  exact ⟨f, fd, F, PySem.W.mg_of X G e⟩
theorem Qs.fn (X : K.In h) (G : h.Ns mainGlobals mg) (c : Says Q K) (i : Nat) {x : Str} {st : Stmt} (hi : Q.fns[i]? = some (x, x, st) := by rfl) : FnIn K mg x st := Qs.fn' X G c i hi
theorem Qs.free (X : K.In h) (G : h.Ns mainGlobals mg) (c : Says Q K) (i : Nat) {x : Str} (hi : Q.frees[i]? = some x := by rfl) : mg x = none :=
  PySem.W.mg_none_of X G (c.fr _ (List.mem_of_getElem? hi))
theorem Qs.exc (X : K.In h) (G : h.Ns mainGlobals mg) (c : Says Q K) (i : Nat) {x : Str} (hi : Q.excs[i]? = some x := by rfl) : ExC K mg x := by
  have c1 : excB K x = true := List.all_eq_true.mp (He.ba c.ck).1 _ (List.mem_of_getElem? hi)
  obtain ⟨C, e, c2⟩ := nsRef (P := fun C => PySem.W.excIn K C veTail "ValueError.__new__" && (keepIn K (.ref C) && (eqB (PySem.W.subIn K (.ref C) (.type "BaseException")) (some true) && isTy (PySem.W.typeIn K (.ref C)) "type"))) c1
  obtain ⟨d1, c2⟩ := He.ba c2
  obtain ⟨d2, c2⟩ := He.ba c2
  obtain ⟨d3, d4⟩ := He.ba c2
  exact ⟨C, PySem.W.mg_of X G e, d1, d2, eqB_ok d3, isTy_ok d4⟩
theorem Qs.xc (X : K.In h) (G : h.Ns mainGlobals mg) (c : Says Q K) (i : Nat) {x : Str} (hi : Q.xcs[i]? = some x := by rfl) : XeC K mg x := by
  have c1 : xcB K x = true := List.all_eq_true.mp (He.ba (He.ba c.ck).2).1 _ (List.mem_of_getElem? hi)
  unfold xcB at c1
  obtain ⟨C, e, c2⟩ := nsRef c1
  obtain ⟨d1, c2⟩ := He.ba c2
  obtain ⟨d2, c2⟩ := He.ba c2
  obtain ⟨d3, c2⟩ := He.ba c2
  obtain ⟨d4, c2⟩ := He.ba c2
  obtain ⟨d5, c2⟩ := He.ba c2
  obtain ⟨d6, c2⟩ := He.ba c2
  obtain ⟨d7, d8⟩ := He.ba c2
  exact ⟨C, PySem.W.mg_of X G e, isBn_ok d1, isNo_ok d2, eqB_ok d3, d4, isBn_ok d5, isBn_ok d6, eqB_ok d7, eqB_ok d8⟩
theorem Qs.iv (X : K.In h) (G : h.Ns mainGlobals mg) (c : Says Q K) (i : Nat) {x : Str} {T : String} (hi : Q.isv[i]? = some (x, T) := by rfl) : ∃ C, mg x = some (.ref C) ∧ PySem.W.subIn K (.ref C) (.type T) = some true := by
  have c1 : isvB K (x, T) = true := List.all_eq_true.mp (He.ba (He.ba (He.ba c.ck).2).2).1 _ (List.mem_of_getElem? hi)
  unfold isvB at c1
  obtain ⟨C, e, c2⟩ := nsRef c1
  exact ⟨C, PySem.W.mg_of X G e, eqB_ok c2⟩
theorem Qs.em (X : K.In h) (G : h.Ns mainGlobals mg) (c : Says Q K) (i : Nat) {x y : Str} {b : Bool} (hi : Q.exm[i]? = some (x, y, b) := by rfl) : ExM K mg x y b := by
  have c1 : exmB K (x, y, b) = true := List.all_eq_true.mp (He.ba (He.ba (He.ba (He.ba c.ck).2).2).2).1 _ (List.mem_of_getElem? hi)
  unfold exmB at c1
  obtain ⟨C, e, c2⟩ := nsRef c1
  obtain ⟨C2, e2, c3⟩ := nsRef c2
  unfold ExM
  rw [PySem.W.mg_of X G e, PySem.W.mg_of X G e2]
  exact eqB_ok c3
theorem isM_q {c T : Str} {Tn : String} (g : ∃ C, mg c = some (.ref C) ∧ PySem.W.subIn K (.ref C) (.type Tn) = some true) (n : mg T = none) (hb : bootBuiltins T = some (.type Tn)) (hk : PySem.W.kitMeta Tn = true) : IsM K mg c T true := by
  obtain ⟨C, e, s⟩ := g
  exact isM_ty e n hb hk s
end
end Dt.Hk
namespace Dt
open PySem PySem.Spec PyProof.Rows L2
section
variable {X : Cx} {k : Nat} {f C : Addr} {fd : FuncData} {ps : List Str} {sp : Sp} {E : St → XK} {x m : Str} {p pos apos : Pos} {e o : Expr} {es : List Expr} {t : TA} {ta : TE}
end
theorem lookup_cons {f k : Str} {v : V} {r : List (Str × V)} : ((k, v) :: r).lookup f = if k = f then some v else r.lookup f := by
  by_cases h : k = f
  · subst h; simp [List.lookup]
  · have hb : (f == k) = false := beq_eq_false_iff_ne.mpr fun z => h z.symm
    simp only [List.lookup, hb, if_neg h]
section
variable {X : Cx} {W : WX} {e : Expr} {es : List Expr} {pos : Pos}
end
section
variable {X : Cx} {W : WX} {e : Expr} {es : List Expr} {pos : Pos}
end
end Dt
namespace Dt
open PySem PySem.Spec PyProof.Rows L2
section
variable {P : Program} {w : World} {K : PySem.W.Frag} {mg : Str → Option Value} {base : Heap} {c m qual : Str} {st : Stmt} {N ps : List Str} {k : Nat} {fb : M Fl}
end
section
variable {X : Cx} {W : WX} {e : Expr} {es : List Expr} {pos : Pos}
end
section
variable {ρ ρ1 : Env} {i : Nat} {c f m : Str} {ks : List Str} {ds : List D}
end
end Dt
namespace Dt.Hk
open PySem PySem.Spec PyProof.Rows L2 Dt
open PySem.W (nsIn fnOf codeIn keepIn findIn)
theorem fnK_ofS {g : Addr → Option Obj} {q : Str × Str × Stmt} (hb : fnB g (tbl (glE g)) q = true) (ho : fnO g (tbl (glE g)) q = fnV q) {as : List Addr} (sub : ∀ a ∈ asK g, a ∈ as) : FnK (He.frG g as) q := by
  unfold fnB at hb
  unfold fnO at ho
  rw [HandSHeadRun.frNat_eq] at hb ho
  cases e1 : lkT (enc q.1) (tbl (glE g)) with
  | none => rw [e1] at hb; cases hb
  | some e =>
    rw [e1] at hb ho
    obtain ⟨hk, hb⟩ := He.ba hb
    obtain ⟨hf, hm⟩ := lkT_some hk _ e1
    obtain ⟨c0, d0, es, n0, sl0, hg, hes⟩ := glE_at hm
    cases e2 : e.val with
    | ref f =>
      rw [e2] at hb
      simp only [e2] at ho
      replace hb : (match g f with
        | some ⟨_, _, .func fd, _⟩ => codeG g fd.code q.2.1
        | _ => false) = true := hb
      have m1 : f ∈ r1 (glE g) := asK_r1 hm e2
      have hns : nsIn (He.frG g as) mainGlobals q.1 = some (some (.ref f)) := by
        unfold nsIn
        rw [frG_mem _ (sub _ asK_main), hg]
        rw [hes] at hf
        simp only [hf, e2]
      cases e3 : g f with
      | none => rw [e3] at hb; cases hb
      | some o =>
        obtain ⟨oc, od, dt, osl⟩ := o
        rw [e3] at hb ho
        cases dt with
        | func fd =>
          obtain ⟨m1_, m2_, m3_, m4_, m5_, m6_, m7_, m8_, m9_, m10_, m11_, m12_, m13_, m14_, m15_⟩ := fd
          have e4 : (some (m1_, m2_, m3_, m4_, m5_, m6_, m7_, m8_, m15_) : FnO) = some (q.2.1, q.2.1, defArgs q.2.2, .stmts (defBody q.2.2), defScope q.2.2, mainGlobals, [], .none, builtinsNs) := ho
          simp only [Option.some.injEq, Prod.mk.injEq] at e4
          obtain ⟨h1, h2, h3, h4, h5, h6, h7, h8, h9⟩ := e4
          have hb' : codeG g m13_ q.2.1 = true := hb
          have lk : (He.frG g as).lookup f = g f := frG_mem _ (sub _ (asK_1 m1))
          cases m13_ with
          | ref c =>
            have m2 : c ∈ asK g := asK_2 m1 e3 (by
              unfold He.refsO
              refine List.mem_append_right _ (List.mem_append_left _ ?_)
              exact List.mem_singleton.mpr rfl)
            have hc : codeIn (He.frG g as) (.ref c) q.2.1 = true := by
              have lc : (He.frG g as).lookup c = g c := frG_mem _ (sub _ m2)
              unfold codeIn
              simp only [lc]
              exact hb'
            have kp : keepIn (He.frG g as) (.ref f) = true := by
              unfold keepIn
              simp only [lk, e3]
            subst h1 h3 h4 h5 h6 h7 h8 h9
            refine ⟨f, _, hns, fun_mk (kV := m9_) (doc := m10_) (pm := m11_) (an := m12_) (cdv := .ref c) (ct := m14_) (oc := oc) (od := od) (osl := osl) ?_ hc kp⟩
            rw [lk, e3, ← h2]
          | _ => cases hb'
        | _ => cases hb
    | _ => rw [e2] at hb; cases hb
theorem frB_okS {g : Addr → Option Obj} {x : Str} (hn : (glE g).isEmpty = false) (hr : ((glE g).any (·.refKey)) = false) (h : frB (tbl (glE g)) x = true) {as : List Addr} (sub : ∀ a ∈ asK g, a ∈ as) : nsIn (He.frG g as) mainGlobals x = some none := by
  unfold frB at h
  rw [HandSHeadRun.frNat_eq] at h
  cases e1 : lkT (enc x) (tbl (glE g)) with
  | some e => rw [e1] at h; cases h
  | none =>
    have hf := lkT_none _ e1
    cases q : glE g with
    | nil => rw [q] at hn; cases hn
    | cons e r =>
      obtain ⟨c0, d0, es, n0, sl0, hg, hes⟩ := glE_at (g := g) (e := e) (by rw [q]; exact List.mem_cons_self)
      unfold nsIn
      rw [frG_mem _ (sub _ asK_main), hg]
      rw [hes] at hf hr
      simp only [hf, hr]
      rfl
structure SaysC (Q : Qc) (K : PySem.W.Frag) : Prop where
  s : Says Q.q K
  ck : Q.ckC K = true
  os : Q.os K = Q.vs
theorem saysC_of {Q : Qc} {g : Addr → Option Obj} (h : Q.obsG g = Q.val) : SaysC Q (KC Q g) := by
  unfold Qc.obsG at h
  rw [tblK_eq] at h
  have h1 : (!(glE g).isEmpty && (!((glE g).any (·.refKey)) && Q.q.ckK (KC Q g))) = true := congrArg (fun z : QcO => z.1.1) h
  have h2 : Q.q.ckT g (tbl (glE g)) = true := congrArg (fun z : QcO => z.1.2.1) h
  have h3 : Q.q.fns.map (fnO g (tbl (glE g))) = Q.q.fns.map fnV := congrArg (fun z : QcO => z.1.2.2) h
  have h4 : Q.ckC (KC Q g) = true := congrArg (fun z : QcO => z.2.1) h
  have h5 : Q.os (KC Q g) = Q.vs := congrArg (fun z : QcO => z.2.2) h
  obtain ⟨a1, h1⟩ := He.ba h1
  obtain ⟨a2, a3⟩ := He.ba h1
  obtain ⟨b1, b2⟩ := He.ba h2
  have sub : ∀ a ∈ asK g, a ∈ asC Q g := fun a ha => List.mem_append_left _ ha
  exact ⟨⟨fun q hq => fnK_ofS (List.all_eq_true.mp b1 q hq) (List.map_inj_left.mp h3 q hq) sub, fun x hx => frB_okS (by simpa using a1) (by simpa using a2) (List.all_eq_true.mp b2 x hx) sub, a3⟩, h4, h5⟩
section
variable {Q : Qc} {K : PySem.W.Frag} {h : Heap} {mg : Str → Option Value}
end
end Dt.Hk
namespace Dt
open PySem PySem.Spec PyProof.Rows L2 LamX
theorem fng_cd {P : Program} {w : World} {K : PySem.W.Frag} {mg : Str → Option Value} {base : Heap} {x qual : Str} {st : Stmt} {f : Addr} {N ps : List Str} {k : Nat} {sp : Sp} {oc kV doc pm c ct : Value} {od an : Option Addr} {osl : Array (Option Value)}
    (look : K.lookup f = some ⟨oc, od, .func (PySem.W.fnOf x qual (defArgs st) (defBody st) (defScope st) .none kV doc pm an c ct), osl⟩) (code : PySem.W.codeIn K c qual = true) (S : FnScope N ps (defScope st)) (many : ∀ vs H Q E, sp vs H Q E → vs.length = ps.length)
    (hb : ∀ (A : Around) (o : List PySem.Env) (s : Shared) (H : Hp) (vs : List V) (Q : VK) (E : XK), Quiet P base (A.deeper (envOfC qual (defScope st) s.heap.objs.size f c)) → Room k (A.deeper (envOfC qual (defScope st) s.heap.objs.size f c)) → sp vs H Q E →
      ∃ t, PSs (cxOf (L2.CX P w) P w K mg base N qual (defScope st) f c A o s H E) (defBody st) t ∧ t { nx := fun _ Z => Q .non Z, rt := Q } (start N vs) H) : FnG P w K mg base (k + 1) f (PySem.W.fnOf x qual (defArgs st) (defBody st) (defScope st) .none kV doc pm an c ct) ps sp := by
  refine ⟨many, @fun A o s H g us vs Q E quiet room e0 bnd rv spec => ?_⟩
  have kin : K.In s.heap := e0.mod.kin.keeps fun b z q => (e0.bs b z q).1
  have nol : s.heap.NoLimit := e0.mod.nolimit.keeps fun b z q => (e0.bs b z q).1
  have kd : ∀ y ∈ ps.zip us, (defScope st).names.lookup y.1 = some .local ∨ ((defScope st).names.lookup y.1 = some .cell ∧ ((cellsFrom (s.heap.objs.size + 1) (defScope st).names []).lookup y.1).isSome = true) := by
    rintro ⟨n, v⟩ hy
    exact (S.par n (List.of_mem_zip hy).1).imp id fun q => ⟨q, PySem.W.cellsFrom_some _ _ _ (.inl q)⟩
  refine codeAny_call_function room.depth (kin _ _ look) rfl S.co S.gen rfl (PySem.W.codeRec_of kin code) (bnd _ _ _ _ (wpAny_newFunctionEnv_cells S.kind kd ?_))
  rintro _ rfl s1 ic
  refine ⟨nol.keeps ic.toInCall.keep, codeAny_func ?_⟩
  obtain ⟨t, ht, hq⟩ := hb A o s H vs Q E ⟨⟨quiet.g, quiet.s, quiet.t⟩, _, _, Around.frames_deeper e0.frames, S.gen, S.co, rfl, rfl⟩ (room.deeper _) spec
  refine wpAny_mono (ht.run [] s1 _ H _ (inv_start (CX := L2.CX P w) (E := E) S room.hd e0 (many _ _ _ _ spec) rv ic) hq) ?_ (fun _ _ z => z)
  rintro (_ | _ | _ | u) z hz
  · obtain ⟨_, Z, J, q⟩ := hz
    exact ⟨.non, Z, J.os, J.bare, J.base, J.hok, rfl, q⟩
  · obtain ⟨_, _, _, q⟩ := hz
    exact q.elim
  · obtain ⟨_, _, _, q⟩ := hz
    exact q.elim
  · obtain ⟨v, _, Z, J, r, q⟩ := hz
    exact ⟨v, Z, J.os, J.bare, J.base, J.hok, r, q⟩
def spT (K : PySem.W.Frag) (n : Nat) (P : Addr) : Sp := fun vs H Q _ => ∃ (a : Addr) (ns : List Int), vs = [.ref a] ∧ SqL K H a (ns.map V.int) ∧ ns.length ≤ n ∧ (∀ z ∈ ns, Builtin.Int.intBits z ≤ 1048576) ∧ H P = some (.tbl #[]) ∧ ∀ H', Q (.bl true) H'
theorem law_ofT {P : Program} {w : World} {K : PySem.W.Frag} {mg : Str → Option Value} {base : Heap} {x qual p : Str} {st : Stmt} {f tb : Addr} {N : List Str} {k n : Nat} {fb : M Fl} {oc kV doc pm c ct : Value} {od an : Option Addr} {osl : Array (Option Value)}
    (look : K.lookup f = some ⟨oc, od, .func (PySem.W.fnOf x qual (defArgs st) (defBody st) (defScope st) .none kV doc pm an c ct), osl⟩) (code : PySem.W.codeIn K c qual = true) (S : FnScope N [p] (defScope st)) (hN : 1 ≤ N.length)
    (hbody : ∀ (A : Around) (outer : List PySem.Env) (s : Shared) (H : Hp) (E : XK), Quiet P base (A.deeper (envOfC qual (defScope st) s.heap.objs.size f c)) → Room k (A.deeper (envOfC qual (defScope st) s.heap.objs.size f c)) →
      TVs (cxOf (L2.CX P w) P w K mg base N qual (defScope st) f c A outer s H E) (fun cls d _ H => E cls d H) (OkO tb (qual ++ ".<locals>." ++ "<lambda>")) (defBody st) fb)
    (h : ∀ ns : List Int, runF none N.length fb [.scr ns] = .ok (.bl true) .ff .non) : FnG P w K mg base (k + 1) f (PySem.W.fnOf x qual (defArgs st) (defBody st) (defScope st) .none kV doc pm an c ct) [p] (spT K n tb) := by
  refine fng_cd look code S (fun vs H Q E q => by obtain ⟨a, ns, rfl, _⟩ := q; rfl) (fun A o s H vs Q E gd rm q => ⟨_, pss_wss, ?_⟩)
  obtain ⟨a, ns, rfl, hS, _, _, hT, told⟩ := q
  have key := h ns
  -- all that stands there is frozen, but the table
  let B : Hp := fun b => if b = tb then none else H b
  have hB : ∀ {b : Addr} {o : HO}, B b = some o → H b = some o := fun {b o} e => by
    have e : (if b = tb then none else H b) = some o := e
    split at e
    · cases e
    · exact e
  have hB2 : ∀ {b : Addr} {o : HO}, H b = some o → (∀ ps, o ≠ .tbl ps) → B b = some o := fun {b o} e n => by
    show (if b = tb then none else H b) = some o
    rw [if_neg (fun z => by rw [z, hT] at e; injection e with e; exact n _ e.symm)]; exact e
  have hS2 : SqL K B a (ns.map V.int) := by
    rcases hS with (q | ⟨o, q⟩) | q
    · exact .inl (.inl (hB2 q fun ps z => nomatch z))
    · exact .inl (.inr ⟨o, hB2 q fun ps z => nomatch z⟩)
    · exact .inr q
  have L := lv_start (N := N) (K := K) (B := B) (H := H) (a := 0) (m := none) (vs := [.ref a]) (ds := [.scr ns]) (.fz (.scr hS2) .nil) (fun b o e => hB e) hN
  have o0 : OkO tb (qual ++ ".<locals>." ++ "<lambda>") (frOf none 0 B H) := ⟨if_pos rfl, TabS.nil hT, fun b z => absurd rfl z.1⟩
  refine hbody A o s H E gd rm _ _ B H _ ⟨_, o0, L⟩ ?_
  unfold runF at key
  cases q : fb (initE none N.length [.scr ns]) with
  | ok fl ρ' =>
    rw [q] at key
    cases fl with
    | nx => exact absurd key (by unfold fin; intro z; cases z)
    | rt d ob =>
      have key : Rf.ok d ob .non = .ok (.bl true) .ff .non := key
      injection key with k1 k2 _
      subst k1; subst k2
      intro v σ' B' H' e' ⟨F, o, L', vo⟩
      cases (show Fz K B' v (.bl true) from vo)
      exact told H'
    | bk => cases key
    | ct => cases key
  | rz c ρ' => rw [q] at key; cases key
  | fail => rw [q] at key; cases key
section
variable {P : Program} {w : World} {K : PySem.W.Frag} {mg mb : Str → Option Value} {k : Nat} {fa a c tb : Addr} {fd : FuncData} {x : Str} {sp : Sp} {s : Shared} {vs : List Value} {ns : List Int}
abbrev tblObj : Obj := { cls := .none, data := .fields #[] }
theorem topT_go (kin : K.In s.heap) (glb : s.heap.Ns mainGlobals mg) (blt : s.heap.Ns builtinsNs mb) (boot : ∀ x : Str, x ≠ "__name__" → mb x = bootBuiltins x) (nol : s.heap.NoLimit) (seer : s.heap.NoSeer) (tree : P.given.tree = none) (gens : s.gens = #[])
    (isT : s.heap.get? tb = some tblObj) (notK : K.lookup tb = none) (hd : PySem.W.CodeHd s.heap c tb) (bmod : ∃ (bm : Addr) (ob : Obj), mg "__builtins__" = some (.ref bm) ∧ bm ≠ builtinsNs ∧ s.heap.get? bm = some ob ∧ ob.cls = .type "module" ∧ ob.dict = some builtinsNs ∧ ob.data = .plain)
    (scr : s.heap.get? a = some (scriptObj vs)) (room : Room k callerA) (F : ∀ b : Heap, K.In b → b.Ns mainGlobals mg → TabB b mg c tb → FnG P w K mg b k fa fd [x] sp) (bnd : ∀ (s : Shared) (u : Value), BindsTo s fd ⟨[u], []⟩ [(x, u)])
    (H : Hp) (spec : sp [.ref a] H (fun v _ => v = .bl true) fun _ _ _ => False) (hT : H tb = some (.tbl #[])) (only : ∀ b, H b = none ∨ b = tb ∨ ∃ o xs, H b = some (.frz o (.lst xs))) (hok : HOk P w H s.heap) (at_ : ∀ b, H b ≠ none → b = a ∨ b = tb) (out : H a ≠ none → K.lookup a = none) :
    codeAny (model P w) callerA (.call (.ref fa) ⟨[.ref a], []⟩) (Done s) s := by
  have aT : a ≠ tb := fun e => by
    rw [e, isT] at scr
    injection scr with scr
    have := congrArg Obj.data scr
    cases this
  have unk : ∀ {b : Addr} {z : Obj}, s.heap.get? b = some z → (∀ its n, z.data ≠ .seq its n) → z.data ≠ .fields #[] → H b = none := by
    intro b z q n1 n2
    match e : H b with
    | none => rfl
    | some y =>
      rcases at_ b (by rw [e]; exact Option.some_ne_none y) with i | i
      · rw [i, scr] at q; injection q with q; rw [← q] at n1; exact absurd rfl (n1 _ _)
      · rw [i, isT] at q; injection q with q; rw [← q] at n2; exact absurd rfl n2
  have unc : ∀ {b : Addr} {z : Obj}, s.heap.get? b = some z → z.cls ≠ .type "list" → z.cls ≠ .none → H b = none := by
    intro b z q n1 n2
    match e : H b with
    | none => rfl
    | some y =>
      rcases at_ b (by rw [e]; exact Option.some_ne_none y) with i | i
      · rw [i, scr] at q; injection q with q; rw [← q] at n1; exact absurd rfl n1
      · rw [i, isT] at q; injection q with q; rw [← q] at n2; exact absurd rfl n2
  have free : ∀ {b : Addr} {z : Obj}, K.lookup b = some z → H b = none := by
    intro b z q
    match e : H b with
    | none => rfl
    | some y =>
      rcases at_ b (by rw [e]; exact Option.some_ne_none y) with i | i
      · rw [i] at e q
        rw [out (by rw [e]; exact Option.some_ne_none y)] at q
        cases q
      · rw [i, notK] at q; cases q
  have dict : ∀ {b : Addr} {m : Str → Option Value}, s.heap.Ns b m → (hidT s.heap H).Ns b m := by
    rintro b m ⟨z, es, ep, q, dz, r⟩
    exact ⟨z, es, ep, hidT_get q (unk q (fun its n m => by rw [dz] at m; cases m) fun m => by rw [dz] at m; cases m), dz, r⟩
  have nos : (hidT s.heap H).NoSeer := by
    obtain ⟨⟨m1, a1, b1⟩, ⟨m2, a2, b2⟩, ⟨m3, a3, b3⟩, m4, bm, ob, a4, b4, c4, d4, e4⟩ := seer
    exact ⟨⟨m1, dict a1, b1⟩, ⟨m2, dict a2, b2⟩, ⟨m3, dict a3, b3⟩, m4, bm, ob, dict a4, b4, hidT_get c4 (unc c4 (by rw [d4]; decide) (by rw [d4]; decide)), d4, e4⟩
  have kb : K.In (hidT s.heap H) := fun b z q => hidT_get (kin b z q) (free q)
  have tabB : TabB (hidT s.heap H) mg c tb := by
    refine ⟨?_, ?_, fun z => ?_⟩
    · obtain ⟨o, us, file, tf, flags, tg, inF, text, tt, e1, r1, r2, r3, rest⟩ := hd
      refine ⟨o, us, file, tf, flags, tg, inF, text, tt, hidT_get e1 (unk e1 (fun its n m => by rw [r2] at m; cases m) fun m => ?_), r1, r2, r3, rest⟩
      rw [r2] at m
      injection m with m
      rw [m] at r3
      simp at r3
    · obtain ⟨bm, ob, b1, b2, b3, b4, b5, b6⟩ := bmod
      refine ⟨bm, ob, b1, b2, fun z => ?_, fun z => ?_, hidT_get b3 (unk b3 (fun its n m => by rw [b6] at m; cases m) fun m => by rw [b6] at m; cases m), b4, b5, b6⟩
      · obtain ⟨o, es, ep, e, dz, _⟩ := glb
        rw [z, e] at b3; injection b3 with b3; rw [b3, b6] at dz; cases dz
      · rw [z, isT] at b3; injection b3 with b3; rw [← b3] at b6; cases b6
    · obtain ⟨o, es, ep, e, dz, _⟩ := glb
      rw [z, isT] at e; injection e with e; rw [← e] at dz; cases dz
  obtain ⟨mc, n1, n2⟩ := nol
  have e0 : Env0 P w K mg (hidT s.heap H) callerA [] s H :=
    ⟨rfl, ⟨kb, dict glb, ⟨mb, dict blt, boot⟩, ⟨mc, dict n1, n2⟩⟩, fun _ _ q => of_hidT q, Nat.le_of_eq (hidT_size _ _), trivial, (fun b q => absurd (show b ∈ ([] : List Addr) from q) List.not_mem_nil), hok, .of_eq gens⟩
  refine codeAny_mono ((F _ kb (dict glb) tabB).go (us := [.ref a]) (vs := [.ref a]) ⟨rfl, nos, tree⟩ room e0 (bnd s (.ref a)) (.cons rfl .nil) spec) ?_
  rintro (err | (_ | _ | _ | u)) z hz
  · obtain ⟨_, _, _, _, _, _, _, _, _, _, _, _, no⟩ := hz
    exact no.elim
  · exact hz.elim
  · exact hz.elim
  · exact hz.elim
  · obtain ⟨v, Z, os, bare, un, okZ, rv, rfl⟩ := hz
    have : u = Value.bool true := rv
    subst this
    have key : ∀ b z0, b ≠ tb → s.heap.get? b = some z0 → z.heap.get? b = some z0 := fun b z0 nb q => by
      match e : H b with
      | none => exact un.keep b z0 q e (fun m => absurd (show b ∈ ([] : List Addr) from m) List.not_mem_nil) (fun m => absurd (show b ∈ ([] : List Addr) from m) List.not_mem_nil)
      | some y =>
        rcases only b with n | n | ⟨ob, xs, n⟩
        · rw [n] at e; cases e
        · exact absurd n nb
        · have g1 := (hok b _ n).1
          have g2 := (okZ b _ (un.frzs b ob _ n)).1
          rw [q] at g1
          injection g1 with g1
          rw [g1]; exact g2
    obtain ⟨more, m1⟩ := un.tbls tb #[] hT
    have grown : z.heap.get? tb = some { cls := .none, data := .fields (#[] ++ more) } := okZ tb _ m1
    refine ⟨rfl, ⟨fun b o e => ?_, fun b o e => ?_⟩, os, bare⟩
    · by_cases hb : b = tb
      · rw [hb] at e ⊢
        rw [isT] at e; injection e with e; subst e
        exact .inr (.inl ⟨(hd.tab isT).isCodeTable, rfl, #[], more, rfl, by rw [Array.empty_append] at grown ⊢; exact grown⟩)
      · exact .inl (key b o hb e)
    · by_cases hb : b = tb
      · rw [hb]; exact ⟨_, grown⟩
      · exact ⟨o, key b o hb e⟩
theorem topT_call (kin : K.In s.heap) (glb : s.heap.Ns mainGlobals mg) (blt : s.heap.Ns builtinsNs mb) (boot : ∀ x : Str, x ≠ "__name__" → mb x = bootBuiltins x) (nol : s.heap.NoLimit) (seer : s.heap.NoSeer) (tree : P.given.tree = none) (gens : s.gens = #[])
    (isT : s.heap.get? tb = some tblObj) (notK : K.lookup tb = none) (hd : PySem.W.CodeHd s.heap c tb) (bmod : ∃ (bm : Addr) (ob : Obj), mg "__builtins__" = some (.ref bm) ∧ bm ≠ builtinsNs ∧ s.heap.get? bm = some ob ∧ ob.cls = .type "module" ∧ ob.dict = some builtinsNs ∧ ob.data = .plain)
    (scr : s.heap.get? a = some (scriptObj vs)) (inz : IntsAre vs ns) (few : ns.length ≤ sizeLine) (room : Room k callerA) (F : ∀ b : Heap, K.In b → b.Ns mainGlobals mg → TabB b mg c tb → FnG P w K mg b k fa fd [x] sp) (bnd : ∀ (s : Shared) (u : Value), BindsTo s fd ⟨[u], []⟩ [(x, u)])
    (spec : ∀ H : Hp, H tb = some (.tbl #[]) → SqL K H a (ns.map V.int) → sp [.ref a] H (fun v _ => v = .bl true) fun _ _ _ => False) :
    codeAny (model P w) callerA (.call (.ref fa) ⟨[.ref a], []⟩) (Done s) s := by
  have rv := vals_ints inz
  have many := inz.length
  have aT : a ≠ tb := fun e => by
    rw [e, isT] at scr
    injection scr with scr
    have := congrArg Obj.data scr
    cases this
  match e : K.lookup a with
  | some z =>
    have q := kin a z e
    rw [scr] at q
    injection q with q
    subst q
    have yes : ∀ {b : Addr}, b = tb → (fun b => if b = tb then some (HO.tbl #[]) else none) b = some (HO.tbl #[]) := fun q => if_pos q
    have nay : ∀ {b : Addr}, b ≠ tb → (fun b => if b = tb then some (HO.tbl #[]) else none) b = none := fun q => if_neg q
    generalize (fun b => if b = tb then some (HO.tbl #[]) else none) = H at yes nay
    have isTb : ∀ b, H b ≠ none → b = tb := fun b z => Classical.byContradiction fun n => z (nay n)
    refine topT_go kin glb blt boot nol seer tree gens isT notK hd bmod scr room F bnd H (spec H (yes rfl) (.inr ⟨_, vs.toArray, _, e, rfl, rfl, rfl, ?_, ?_⟩)) (yes rfl) (fun b => ?_) (fun b u q => ?_) (fun b z => .inr (isTb b z)) (fun z => absurd (nay aT) z)
    · rw [List.size_toArray, many]; exact few
    · simpa using rv
    · by_cases n : b = tb
      · exact .inr (.inl n)
      · exact .inl (nay n)
    · have n : b = tb := isTb b (by rw [q]; exact Option.some_ne_none u)
      rw [yes n] at q
      injection q with q
      subst q; subst n
      exact isT
  | none =>
    have yes : ∀ {b : Addr}, b = a → (fun b => if b = a then some (HO.frz (scriptObj vs) (.lst (ns.map V.int))) else if b = tb then some (HO.tbl #[]) else none) b = some (HO.frz (scriptObj vs) (.lst (ns.map V.int))) := fun q => if_pos q
    have tbl : (fun b => if b = a then some (HO.frz (scriptObj vs) (.lst (ns.map V.int))) else if b = tb then some (HO.tbl #[]) else none) tb = some (HO.tbl #[]) := (if_neg (Ne.symm aT)).trans (if_pos rfl)
    have nay : ∀ {b : Addr}, b ≠ a → b ≠ tb → (fun b => if b = a then some (HO.frz (scriptObj vs) (.lst (ns.map V.int))) else if b = tb then some (HO.tbl #[]) else none) b = none := fun q q2 => (if_neg q).trans (if_neg q2)
    generalize (fun b => if b = a then some (HO.frz (scriptObj vs) (.lst (ns.map V.int))) else if b = tb then some (HO.tbl #[]) else none) = H at yes tbl nay
    have isA : ∀ b, H b ≠ none → b = a ∨ b = tb := fun b z => Classical.byContradiction fun n => z (nay (fun m => n (.inl m)) fun m => n (.inr m))
    refine topT_go kin glb blt boot nol seer tree gens isT notK hd bmod scr room F bnd H (spec H tbl (.inl (.inr ⟨_, yes rfl⟩))) tbl (fun b => ?_) (fun b z q => ?_) isA (fun _ => e)
    · by_cases n : b = a
      · exact .inr (.inr ⟨_, _, yes n⟩)
      · by_cases n2 : b = tb
        · exact .inr (.inl n2)
        · exact .inl (nay n n2)
    · rcases isA b (by rw [q]; exact Option.some_ne_none z) with n | n
      · rw [yes n] at q
        injection q with q
        subst q; subst n
        exact ⟨scr, by rw [List.length_map]; exact few, vs, _, rv, scr⟩
      · rw [n, tbl] at q
        injection q with q
        subst q; subst n
        exact isT
end
end Dt
namespace Dt.Hk
open PySem PySem.Spec PyProof.Rows L2 Dt LamX
theorem mem_look {a : Addr} {o : Obj} : ∀ K : PySem.W.Frag, K.lookup a = some o → (a, o) ∈ K
  | [], e => nomatch (show (none : Option Obj) = some o from e)
  | (b, u) :: r, e => by
    rw [List.lookup_cons] at e
    cases h : (a == b) with
    | true =>
      rw [h] at e
      injection e with e; subst e
      rw [eq_of_beq h]; exact List.mem_cons_self
    | false =>
      rw [h] at e
      exact List.mem_cons_of_mem _ (mem_look r e)
def Qc.hookT (Q : Qc) : PySem.W.Hook where
  α := QcO × Bool
  obs := fun s => (Q.obsG s.heap.get?, (KC Q s.heap.get?).all notTb)
  val := fun _ => (Q.val, true)
  says := fun _ h => ∃ K : PySem.W.Frag, K.In h ∧ SaysC Q K ∧ K.all notTb = true
  of := fun _ _ e => ⟨_, He.frG_in, saysC_of (congrArg (·.1) e), congrArg (·.2) e⟩
  keeps := fun _ _ _ ⟨K, hIn, q⟩ kp => ⟨K, PySem.W.Frag.In.keeps hIn kp, q⟩
theorem Qc.obsT_eq {Q : Qc} {g : Addr → Option Obj} {s : Shared} (h : ∀ a, g a = s.heap.get? a) : (Q.obsG g, (KC Q g).all notTb) = Q.hookT.obs s := by
  have eg : g = s.heap.get? := funext fun a => h a
  rw [eg] <;> rfl
theorem walk_hT {l : PySem.W.OpenLaw} {n k : Nat} {q : Program} {loose : List Str} {XP : (Str → Option Value) → Heap → Prop} {d : DefRec} {Q : Qc} {x : Str} (hn : l.most = some n) (himp : importsNone q = true) (tree : l.prog.given.tree = none) (few : n ≤ sizeLine) (nodef : d.params.defaults = []) (room : Room k callerA) (rec_ : ((recsOf q).any fun e => e.name == d.name) = true)
    (F : ∀ (w : World) (K : PySem.W.Frag) (mg : Str → Option Value) (fa c tb : Addr) (h : Heap), SaysC Q K → K.In h → h.Ns mainGlobals mg → mg d.name = some (.ref fa) → (∀ (o : Obj) (fd : FuncData), K.lookup fa = some o → o.data = .func fd → fd.code = .ref c) →
      ∃ fd : FuncData, (∀ (s : Shared) (u : Value), BindsTo s fd ⟨[u], []⟩ [(x, u)]) ∧ ∀ b : Heap, K.In b → b.Ns mainGlobals mg → TabB b mg c tb → FnG l.prog w K mg b k fa fd [x] (spT K n tb)) :
    PySem.W.WalkO q loose XP Q.hookT.says l.row.toRowW d [] (fun f vs => PySem.call f vs) := by
  refine Att.attach_callB hn nodef ?_
  intro w _ s1 mg _ fa _ _ _ _ a _ ns G Y _ _ _ hmg scr inz hl bits gens
  obtain ⟨K, hK, c, nt⟩ := Y
  obtain ⟨dL, hm, hn1⟩ := List.any_eq_true.mp rec_
  obtain ⟨fa2, o2, fd2, cc, tb, h1, h2, h3, h4, h5, h6⟩ := G.T.tab dL hm
  rw [beq_iff_eq.mp hn1, hmg] at h1
  injection h1 with h1; injection h1 with h1; subst h1
  have isT : s1.heap.get? tb = some tblObj := h6.2
  have notK : K.lookup tb = none := by
    cases e : K.lookup tb with
    | none => rfl
    | some o =>
      have e1 := hK tb o e
      rw [isT] at e1; injection e1 with e1; subst e1
      have := List.all_eq_true.mp nt _ (mem_look K e)
      simp [notTb] at this
  obtain ⟨fd, bnd, go⟩ := F w K mg fa cc tb _ c hK G.T.g hmg (fun o fd e1 e2 => by
    have e3 := hK fa o e1
    rw [h2] at e3; injection e3 with e3; subst e3
    rw [h3] at e2; injection e2 with e2; subst e2
    exact h4)
  exact topT_call hK G.T.g G.T.b G.T.builtins G.T.nolimit (G.T.seer himp) tree gens isT notK (PySem.W.CodeHd.of h5 h6) G.T.bmain scr inz (Nat.le_trans hl few) room go bnd (fun H hT hS => ⟨a, ns, rfl, hS, hl, bits, hT, fun _ => rfl⟩)
end Dt.Hk
namespace K02
namespace Hd
open PySem PySem.W PySem.Calls PyProof.Rows HandSHeadRun Dt.Pc Dt.Hk
theorem ob_eq (s : PySem.W.SharedT) : ob s = qc.hookT.obs s.abs := Qc.obsT_eq (HandSHeadRun.getT_eq s)
end Hd
end K02
namespace Dt
open PySem PySem.Spec PyProof.Rows L2
instance decMemT {z : List L2.Key} {ks : List (List L2.Key)} : Decidable (z ∈ ks) := decidable_of_iff ((ks.any fun k => decide (k = z)) = true) (by
  rw [List.any_eq_true]
  exact ⟨fun ⟨x, h1, h2⟩ => by rw [← of_decide_eq_true h2]; exact h1, fun h => ⟨z, h, decide_eq_true rfl⟩⟩)
section
variable {K : PySem.W.Frag} {B H : Hp}
end
section
variable {X : Cx} {W : WX} {e a b kx : Expr} {pos : Pos} {i : Nat} {x : Str} {px : Pos} {K : PySem.W.Frag}
end
section
variable {X : Cx} {W : WX} {e a b kx dx : Expr} {pos : Pos} {i : Nat} {x : Str} {px : Pos}
end
section
variable {X : Cx} {W : WX} {e a : Expr} {pos p : Pos}
end
section
variable {α : Type} {F : α → D} {l : List (List Int × α)} {z : List Int} {v : α} {ρ ρ1 ρ2 ρ3 : Env} {i : Nat} {fe fk fd : M D} {fs : M (List D)}
end
end Dt
namespace Dt
open PySem PySem.Spec PyProof.Rows L2 LamX
def decNF (c : Str) : Bool := decide (c = "NoFraction")
theorem sIfRef {ks : List Str} {dec : Str → Bool} {f : M D} {ρ ρz : Env} {c x : Str} (h : f (wipeO ρ) = .rz c ρz) (e : c = x) (hx : x ∈ ks ∧ dec x = true := by decide) : mIfRef ks dec f ρ = .ok .nx ρ := by
  subst e
  unfold mIfRef
  rw [h]
  exact if_pos hx
section
variable {X : Cx} {W : WX} {O : Fr → Prop} {sts : List Stmt} {f : M Fl} {is : List Nat} {i : Nat}
theorem tvs_nil : TVs X W O [] mNx := tvs_of svs_nil
theorem tvs_kill (h : TVs X W O sts f) : TVs X W O sts (mSeq (mKill is) f) := fun ρ σ B H N ⟨F, o, L⟩ P => h _ σ B H N ⟨F, o, L.kill is⟩ P
theorem tv_ifrefF {ks tk : List Str} {dec : Str → Bool} {x y n ex : Str} {st : Stmt} {c P : Addr} {k : Nat} {par : Arguments} {suite rest : List Stmt} {b₀ : Stmt} {sc : Scope} {Ng : List Str} {bd : Expr} {fE : M D} {kg : Str → M Fl}
    {p lp pos1 pos2 pos3 p1 p2 p3 np pos' pos4 : Pos} (T : FnIn X.K X.mg x st) (gl : Gl X x) (Sg : FnScope Ng [y] (defScope st)) (iN : Ng[0]? = some y) (vis : Vis (defScope st) y)
    (hb : ∀ (kV doc pm : Value) (an : Option Addr) (cdv ct : Value) (us : List Value), us.length = [y].length → bindArgs (PySem.W.fnOf x x (defArgs st) (defBody st) (defScope st) .none kV doc pm an cdv ct) ⟨us, []⟩ = pure ([y].zip us))
    (TB : TabB X.base X.mg c P) (own : X.env.code = .ref c) (rm : Room (k + 2) X.A) (qt : Quiet0 X.prog X.base X.A) (Ls : LamS X.env.scope sc) (nodef : defaultsOf par X.env = ([], []))
    (bnd : ∀ (q : Str) (cl : List (Str × Addr)) (pm cv ctv : Value), bindArgs (PySem.W.kla_fn "<lambda>" q par bd sc cl pm cv ctv) ⟨[], []⟩ = pure [])
    (hbg : defBody st = .Try [.Expr (.Call (.Name y p1) [] [] p2) p3] [.ExceptHandler (some (.Name ex np)) (some n) (b₀ :: suite) pos'] [] [] pos4 :: rest) (iE : Ng[1]? = some n) (nl : Ng.length = 2)
    (hln : (defScope st).names.lookup n = some .local) (hc : ExC X.K X.mg ex) (hgx : (defScope st).names.lookup ex = some .globalImplicit) (hdx : (ex == ("__debug__" : Str)) = false) (ha : ExA X.K X.mg ks ⟨ex, tk, mNx⟩) (hxe : ∀ c ∈ ks, XeC X.K X.mg c) (hall : ∀ c ∈ ks, c ∈ tk)
    (hsu : ∀ (g : Addr) (cd : Value) z H1 c, c ∈ ks → ∀ a oe pn, Hld ((inCx X Ng x (defScope st) g cd z H1).suite a ((a, oe) :: pn)) a c → SVes ((inCx X Ng x (defScope st) g cd z H1).suite a ((a, oe) :: pn)) wxN 1 a (b₀ :: suite) (kg c))
    (hk : ∀ c ∈ ks, ∃ ρ', kg c [.un, .un] = .ok (.rt (.bl (dec c)) .ff) ρ')
    (hE : ∀ (f cc : Addr) (A : Around) (o : List PySem.Env) (z : Shared) (Hz : Hp) (E : XK), Quiet X.prog X.base (A.deeper (lamEnv X sc z.heap.objs.size f cc)) → Room k (A.deeper (lamEnv X sc z.heap.objs.size f cc)) → EV (lamCx X A o z Hz E sc f cc) (fun cls d _ H => E cls d H) bd fE)
    (ndx : (x == ("__debug__" : Str)) = false := by decide) (nd : (y == ("__debug__" : Str)) = false := by decide) (nc : (y == ("__classdict__" : Str)) = false := by decide)
    (hw : ∀ whole, isTrue (.Call (.Name x p) [.Lambda par bd sc lp] [] pos1) X.env whole = (do let v ← whole; standAt pos1; holding [v] (truthy v)) := by intro _; rfl) :
    TV X W (OkO P (lmQ X)) (.If (.UnaryOp .Not (.Call (.Name x p) [.Lambda par bd sc lp] [] pos1) pos2) sts [] pos3) (mIfRef ks dec fE) := by
  obtain ⟨g, fd, F, mx⟩ := T
  have kp := F.kp
  have bds := F.binds hb
  obtain ⟨oc, od, kV, doc, pm, an, cd, ct, osl, e, look, code⟩ := F.ex
  subst e
  exact tv_ifref gl mx kp look code bds Sg iN vis TB own rm qt Ls nodef bnd hbg iE nl (fun z H1 => hln) hc (fun z H1 => hgx) hdx ha hxe hall (hsu g cd) hk hE (fun z H1 => rfl) ndx nd nc hw
end
end Dt
namespace Std
open PySem PySem.Spec PyProof.Rows L2 Dt
noncomputable def fb_common : M Fl :=
  mSeq (mWh (mTest (mBin dNe (mVar 1) (M.pure (.int 0)))) (mPar 0 1 (mCons (mVar 1) (mCons (mBin dMod (mVar 0) (mVar 1)) (mNil)))))
    (mRet (mMove 0))
noncomputable def fn_common : List D → Rf := runF none 2 fb_common
noncomputable def fb_fraction : M Fl :=
  mSeq (mIf (mTest (mBin dEq (mVar 1) (M.pure (.int 0)))) (M.raise "NoFraction") (mNx))
    (mSeq (mSet 2 (mCallN 2 none fn_common (xV (mCall dAbs (mCons (mVar 0) (mNil))) (xV (mCall dAbs (mCons (mVar 1) (mNil))) (xNil)))))
    (mSeq (mIf (mTest (mBin dLt (mVar 1) (M.pure (.int 0)))) (mSet 2 (mOf (mBin dSub (M.pure (.int 0)) (mVar 2)))) (mNx))
    (mRet (mOf (mTup (mCons (mBin dDiv (mVar 0) (mVar 2)) (mCons (mBin dDiv (mVar 1) (mVar 2)) (mNil))))))))
noncomputable def fn_fraction : List D → Rf := runF none 3 fb_fraction
noncomputable def fb_times : M Fl :=
  mRet (mCallN 2 none fn_fraction (xV (mBin dMul (mBin dIx (mVar 0) (M.pure (.int 0))) (mBin dIx (mVar 1) (M.pure (.int 0)))) (xV (mBin dMul (mBin dIx (mVar 0) (M.pure (.int 1))) (mBin dIx (mVar 1) (M.pure (.int 1)))) (xNil))))
noncomputable def fn_times : List D → Rf := runF none 2 fb_times
noncomputable def fb_over : M Fl :=
  mRet (mCallN 2 none fn_fraction (xV (mBin dMul (mBin dIx (mVar 0) (M.pure (.int 0))) (mBin dIx (mVar 1) (M.pure (.int 1)))) (xV (mBin dMul (mBin dIx (mVar 0) (M.pure (.int 1))) (mBin dIx (mVar 1) (M.pure (.int 0)))) (xNil))))
noncomputable def fn_over : List D → Rf := runF none 2 fb_over
noncomputable def fb__law_stream : M Fl :=
  mSeq (mIf (mTest (mBin dLt (mVar 1) (mCall dLen (mCons (mVar 0) (mNil))))) (mSeq (mSet 2 (mOf (mBin dIx (mVar 0) (mVar 1))))
    (mSeq (mSet 3 (mOf (mBin dAdd (mBin dAdd (mBin dMod (mVar 2) (M.pure (.int 2147483629))) (mBin dMul (mVar 1) (mVar 1))) (M.pure (.int 1)))))
    (mSeq (mIf (mTest (mBin dLt (mVar 2) (mBin dPow (M.pure (.int 10)) (M.pure (.int 18))))) (mSet 2 (mOf (M.pure (.int 0)))) (mNx))
    (mRet (mLst (mCons (mVar 2) (mCons (mVar 3) (mNil)))))))) (mNx))
    (mRet (mLst (mCons (M.pure (.int 0)) (mCons (mBin dAdd (mBin dMul (mVar 1) (mVar 1)) (M.pure (.int 11))) (mNil)))))
noncomputable def fn__law_stream : List D → Rf := runF none 4 fb__law_stream
noncomputable def fb__law_take : M Fl :=
  mSeq (mIf (mTest (mBin dEq (mPeek 0 (M.pure (.int 0))) (M.pure (.int 0)))) (mSeq (mPutAt 0 (mBin dMod (mBin dAdd (mBin dMul (mPeek 0 (M.pure (.int 1))) (M.pure (.int 48271))) (M.pure (.int 12345))) (M.pure (.int 2147483647))) (M.pure (.int 1)))
    (mRet (mOf (mBin dMod (mBin dMod (mBin dMul (mPeek 0 (M.pure (.int 1))) (mPeek 0 (M.pure (.int 1)))) (M.pure (.int 2147483629))) (mVar 1))))) (mNx))
    (mSeq (mSet 2 (mOf (mBin dMod (mPeek 0 (M.pure (.int 0))) (mVar 1))))
    (mSeq (mPutAt 0 (mBin dDiv (mPeek 0 (M.pure (.int 0))) (mVar 1)) (M.pure (.int 0)))
    (mRet (mMove 2))))
noncomputable def fn__law_take : List D → Rf := runF (some 0) 3 fb__law_take
end Std
namespace Std
open PySem L2 Dt
theorem common_loop : ∀ (n a b : Nat), b < n → mWhN (mTest (mBin dNe (mVar 1) (M.pure (.int 0)))) (mPar 0 1 (mCons (mVar 1) (mCons (mBin dMod (mVar 0) (mVar 1)) (mNil)))) n [.fz (.int a), .fz (.int b)] = .ok .nx [.fz (.int (Nat.gcd a b : Nat)), .fz (.int 0)]
  | 0, a, b, h => by omega
  | n + 1, a, 0, h => by
    unfold mWhN
    simp
  | n + 1, a, b + 1, h => by
    unfold mWhN
    have e : ((a : Int).fmod ((b + 1 : Nat) : Int)) = ((a % (b + 1) : Nat) : Int) := by
      rw [Int.fmod_eq_emod_of_nonneg _ (by omega)]; rfl
    have hb : ((b + 1 : Nat) : Int) ≠ 0 := by omega
    have ih := common_loop n (b + 1) (a % (b + 1)) (by have := Nat.mod_lt a (show 0 < b + 1 by omega); omega)
    have hz : decide (((b + 1 : Nat) : Int) = 0) = false := decide_eq_false hb
    simp only [bind_ap, test_ap, bin_ap, var_ap, List.getElem?_cons_succ, List.getElem?_cons_zero, ok_bnd, pure_ap, opt_some, dNe_i, hz, Bool.not_false, asBl_bl, par_ap, cons_ap, nil_ap, dMod_i, modOk_of hb, if_true, List.set_cons_zero, List.set_cons_succ, e]
    rw [ih]
    congr 4
    rw [Nat.gcd_comm a (b + 1), Nat.gcd_rec (b + 1) a, Nat.gcd_comm]
theorem common_ok (a b : Nat) : fn_common [.int a, .int b] = .ok (.int (Nat.gcd a b : Nat)) .ff .non := by
  have h := common_loop (b + 1) a b (by omega)
  have hw := mWh_eq (t := mTest (mBin dNe (mVar 1) (M.pure (.int 0)))) (b := mPar 0 1 (mCons (mVar 1) (mCons (mBin dMod (mVar 0) (mVar 1)) (mNil)))) (n := b + 1) (ρ := [.fz (.int a), .fz (.int b)]) (by rw [h]; intro z; cases z)
  rw [h] at hw
  unfold fn_common runF fb_common
  simp [hw]
theorem num_div (a b : Int) : (Rat.divInt a b).num = b.sign * a / ((Nat.gcd a.natAbs b.natAbs : Nat) : Int) := by
  rw [Rat.num_divInt, Int.gcd, Nat.gcd_comm]
theorem den_div {a b : Int} (hb : b ≠ 0) : (Rat.divInt a b).den = b.natAbs / Nat.gcd a.natAbs b.natAbs := by
  rw [Rat.den_divInt, if_neg hb, Int.gcd, Nat.gcd_comm]
theorem frac_pair {a b : Int} (hb : b ≠ 0) (s : Int) (hs : s = if b < 0 then 0 - ((Nat.gcd a.natAbs b.natAbs : Nat) : Int) else ((Nat.gcd a.natAbs b.natAbs : Nat) : Int)) :
    D.tup [.int (a.fdiv s), .int (b.fdiv s)] = fq (Rat.divInt a b) := by
  have hg : 0 < Nat.gcd a.natAbs b.natAbs := Nat.gcd_pos_of_pos_right _ (by omega)
  have da : ((Nat.gcd a.natAbs b.natAbs : Nat) : Int) ∣ a := Int.ofNat_dvd_left.mpr (Nat.gcd_dvd_left _ _)
  have db : ((Nat.gcd a.natAbs b.natAbs : Nat) : Int) ∣ b := Int.ofNat_dvd_left.mpr (Nat.gcd_dvd_right _ _)
  unfold fq
  rw [num_div, den_div hb, Int.natCast_ediv]
  generalize hG : ((Nat.gcd a.natAbs b.natAbs : Nat) : Int) = g at *
  by_cases h : b < 0
  · rw [if_pos h] at hs
    have es : s = -g := by omega
    rw [es, Int.fdiv_eq_ediv_of_dvd (Int.neg_dvd.mpr da), Int.fdiv_eq_ediv_of_dvd (Int.neg_dvd.mpr db), Int.sign_eq_neg_one_of_neg h, Int.ediv_neg, Int.ediv_neg]
    have e1 : (-1 * a) / g = -(a / g) := by
      rw [show -1 * a = -a by omega, Int.neg_ediv_of_dvd da]
    have e2 : ((b.natAbs : Nat) : Int) / g = -(b / g) := by
      rw [show ((b.natAbs : Nat) : Int) = -b by omega, Int.neg_ediv_of_dvd db]
    rw [e1, e2]
  · rw [if_neg h] at hs
    rw [hs, Int.fdiv_eq_ediv_of_dvd da, Int.fdiv_eq_ediv_of_dvd db, Int.sign_eq_one_of_pos (by omega)]
    rw [show ((b.natAbs : Nat) : Int) = b by omega, show (1 : Int) * a = a by omega]
theorem e_fraction {a b : Int} (hb : b ≠ 0) : fn_fraction [.int a, .int b] = .ok (fq (Rat.divInt a b)) .ff .non := by
  have hg : 0 < Nat.gcd a.natAbs b.natAbs := Nat.gcd_pos_of_pos_right _ (by omega)
  unfold fn_fraction runF fb_fraction
  by_cases h : b < 0
  · rw [← frac_pair (a := a) hb (-((Nat.gcd a.natAbs b.natAbs : Nat) : Int)) (by rw [if_pos h]; omega)]
    have hd : ∀ x : Int, divOk x (-((Nat.gcd a.natAbs b.natAbs : Nat) : Int)) = true := fun x => divOk_of (by omega)
    simp [hb, common_ok, h, hd]
  · rw [← frac_pair (a := a) hb ((Nat.gcd a.natAbs b.natAbs : Nat) : Int) (by rw [if_neg h])]
    have hd : ∀ x : Int, divOk x ((Nat.gcd a.natAbs b.natAbs : Nat) : Int) = true := fun x => divOk_of (by omega)
    simp [hb, common_ok, h, hd]
theorem fraction_nought {a : Int} : fn_fraction [.int a, .int 0] = .rz "NoFraction" := by
  unfold fn_fraction runF fb_fraction
  simp
def Sz (n : Nat) (q : Rat) : Prop := q.num.natAbs < 2 ^ n ∧ q.den < 2 ^ n
theorem den_pos (q : Rat) : 0 < q.den := Nat.pos_of_ne_zero q.den_nz
theorem sz_div {a b : Int} {n : Nat} (hb : b ≠ 0) (h1 : a.natAbs < 2 ^ n) (h2 : b.natAbs < 2 ^ n) : Sz n (Rat.divInt a b) := by
  constructor
  · rw [num_div]
    refine Nat.lt_of_le_of_lt ?_ h1
    have hg : 0 < Nat.gcd a.natAbs b.natAbs := Nat.gcd_pos_of_pos_right _ (by omega)
    rw [Int.natAbs_ediv_of_dvd]
    · refine Nat.le_trans (Nat.div_le_self _ _) ?_
      rw [Int.natAbs_mul, Int.natAbs_sign_of_ne_zero hb, Nat.one_mul]; exact Nat.le_refl _
    · exact Int.dvd_mul_of_dvd_right (Int.ofNat_dvd_left.mpr (Nat.gcd_dvd_left _ _))
  · rw [den_div hb]
    exact Nat.lt_of_le_of_lt (Nat.div_le_self _ _) h2
theorem nat_pow_two (n : Nat) : (0 : Nat) < 2 ^ n := Nat.pow_pos (by decide)
theorem mul_lt_two {a b n m : Nat} (ha : a < 2 ^ n) (hb : b < 2 ^ m) : a * b < 2 ^ (n + m) := by
  rw [Nat.pow_add]; exact Nat.mul_lt_mul'' ha hb
theorem add_div (p q : Rat) : Rat.divInt (p.num * (q.den : Int) + q.num * (p.den : Int)) ((p.den : Int) * (q.den : Int)) = p + q := by
  rw [Rat.add_def', ← Int.natCast_mul, Rat.divInt_ofNat]
theorem mul_div (p q : Rat) : Rat.divInt (p.num * q.num) ((p.den : Int) * (q.den : Int)) = p * q := by
  rw [Rat.mul_def', ← Int.natCast_mul, Rat.divInt_ofNat]
theorem div_div (p q : Rat) : Rat.divInt (p.num * (q.den : Int)) ((p.den : Int) * q.num) = p / q := by
  rw [Rat.div_def, Rat.inv_def, ← Rat.divInt_mul_divInt, Rat.num_divInt_den]
theorem sz_add {n m : Nat} {p q : Rat} (hp : Sz n p) (hq : Sz m q) : Sz (n + m + 1) (p + q) := by
  rw [← add_div]
  have d1 := den_pos p
  have d2 := den_pos q
  have h0 : ((p.den : Int) * (q.den : Int)) ≠ 0 := Int.mul_ne_zero (by omega) (by omega)
  have m1 := mul_lt_two hp.1 hq.2
  have m2 := mul_lt_two hq.1 hp.2
  have m3 := mul_lt_two hp.2 hq.2
  refine sz_div h0 ?_ ?_
  · refine Nat.lt_of_le_of_lt (Int.natAbs_add_le _ _) ?_
    rw [Int.natAbs_mul, Int.natAbs_mul, Int.natAbs_natCast, Int.natAbs_natCast, Nat.pow_succ]
    rw [Nat.add_comm m n] at m2
    omega
  · rw [Int.natAbs_mul, Int.natAbs_natCast, Int.natAbs_natCast, Nat.pow_succ]
    omega
theorem sz_quo {n m : Nat} {p q : Rat} (hp : Sz n p) (hq : Sz m q) : Sz (n + m) (p / q) := by
  by_cases h : q.num = 0
  · have : q = 0 := Rat.num_eq_zero.mp h
    subst this
    rw [Rat.div_def, Rat.inv_zero, Rat.mul_zero]
    exact ⟨nat_pow_two _, by
      have h1 := hp.2
      have h2 := den_pos p
      show 1 < 2 ^ (n + m)
      refine Nat.lt_of_le_of_lt (show 1 ≤ p.den from h2) (Nat.lt_of_lt_of_le h1 (Nat.pow_le_pow_right (by decide) (by omega)))⟩
  · rw [← div_div]
    have d1 := den_pos p
    refine sz_div (Int.mul_ne_zero (by omega) h) ?_ ?_
    · rw [Int.natAbs_mul, Int.natAbs_natCast]; exact mul_lt_two hp.1 hq.2
    · rw [Int.natAbs_mul, Int.natAbs_natCast]; exact mul_lt_two hp.2 hq.1
def sz (q : Rat) : Nat := max q.num.natAbs.log2 q.den.log2 + 1
theorem lt_log (n : Nat) : n < 2 ^ (n.log2 + 1) := Nat.lt_log2_self
theorem sz_Sz (q : Rat) : Sz (sz q) q := ⟨Nat.lt_of_lt_of_le (lt_log _) (Nat.pow_le_pow_right (by decide) (by unfold sz; omega)), Nat.lt_of_lt_of_le (lt_log _) (Nat.pow_le_pow_right (by decide) (by unfold sz; omega))⟩
theorem log_le {n k : Nat} (h : n < 2 ^ k) (hk : 1 ≤ k) : n.log2 + 1 ≤ k := by
  rcases Nat.eq_zero_or_pos n with z | z
  · subst z; simpa using hk
  · exact (Nat.log2_lt (by omega)).mpr h
theorem sz_le {n : Nat} {q : Rat} (h : Sz n q) : sz q ≤ n := by
  have hn : 1 ≤ n := by
    rcases Nat.eq_zero_or_pos n with z | z
    · subst z; have := h.2; have := den_pos q; omega
    · exact z
  have h1 := log_le h.1 hn
  have h2 := log_le h.2 hn
  unfold sz; omega
theorem sz_divI {a b : Int} {n : Nat} (hb : b ≠ 0) (h1 : a.natAbs < 2 ^ n) (h2 : b.natAbs < 2 ^ n) : sz (Rat.divInt a b) ≤ n := sz_le (sz_div hb h1 h2)
theorem sz_0 : sz 0 = 1 := rfl
def SQ (p q : Rat) : Prop := sz p + sz q ≤ 80000000
theorem mok {p q : Int} {a b : Nat} (hp : p.natAbs < 2 ^ a) (hq : q.natAbs < 2 ^ b) (h : a + b ≤ 90000000) : mulOk p q = true := mulOk_of hp hq h
theorem nabs_lt {k n : Nat} (h : k < 2 ^ n) : ((k : Nat) : Int).natAbs < 2 ^ n := by rw [Int.natAbs_natCast]; exact h
theorem den_mul (p q : Rat) : ((p.den : Int) * (q.den : Int)) ≠ 0 := by
  have d1 := den_pos p
  have d2 := den_pos q
  exact Int.mul_ne_zero (by omega) (by omega)
section
variable {p q : Rat}
theorem mk1 (h : SQ p q) : mulOk p.num (q.den : Int) = true := mok (sz_Sz p).1 (nabs_lt (sz_Sz q).2) (by unfold SQ at h; omega)
theorem mk3 (h : SQ p q) : mulOk (p.den : Int) (q.den : Int) = true := mok (nabs_lt (sz_Sz p).2) (nabs_lt (sz_Sz q).2) (by unfold SQ at h; omega)
theorem mk4 (h : SQ p q) : mulOk p.num q.num = true := mok (sz_Sz p).1 (sz_Sz q).1 (by unfold SQ at h; omega)
theorem mk5 (h : SQ p q) : mulOk (p.den : Int) q.num = true := mok (nabs_lt (sz_Sz p).2) (sz_Sz q).1 (by unfold SQ at h; omega)
theorem e_times (h : SQ p q) : fn_times [fq p, fq q] = .ok (fq (p * q)) .ff .non := by
  unfold fn_times runF fb_times
  simp [fq, mk4 h, mk3 h]
  rw [e_fraction (den_mul p q), mul_div]
  rfl
theorem e_over (h : SQ p q) (h0 : q ≠ 0) : fn_over [fq p, fq q] = .ok (fq (p / q)) .ff .non := by
  have d1 := den_pos p
  have hn : q.num ≠ 0 := fun z => h0 (Rat.num_eq_zero.mp z)
  have h4 : ((p.den : Int) * q.num) ≠ 0 := Int.mul_ne_zero (by omega) hn
  unfold fn_over runF fb_over
  simp [fq, mk1 h, mk5 h]
  rw [e_fraction h4, div_div]
  rfl
theorem over_nought (h : SQ p 0) : fn_over [fq p, fq 0] = .rz "NoFraction" := by
  have h1 : mulOk p.num 1 = true := mk1 h
  have h3 : mulOk (p.den : Int) 0 = true := mk5 h
  unfold fn_over runF fb_over
  simp [fq, h1, h3, fraction_nought]
end
section
variable {p q : Rat}
end
structure Stm where
  c : Int
  m : Int
  c0 : 0 ≤ c
  m0 : 0 ≤ m
  m1 : m < 2 ^ 40
def eStm (s : Stm) : D := .lst [.int s.c, .int s.m]
instance : Inhabited Stm := ⟨⟨0, 0, by decide, by decide, by decide⟩⟩
def mixed (m : Int) : Int := (m * 48271 + 12345).fmod 2147483647
theorem mixed_b (m : Int) : 0 ≤ mixed m ∧ mixed m < 2147483647 := by
  unfold mixed
  rw [Int.fmod_eq_emod_of_nonneg _ (by decide)]
  omega
def t__law_take (s : Stm) (most : Int) : Int × Stm :=
  if h : s.c = 0 then (((mixed s.m * mixed s.m).fmod 2147483629).fmod most, ⟨0, mixed s.m, by decide, (mixed_b s.m).1, by have := (mixed_b s.m).2; omega⟩)
  else if h2 : 0 < most then (s.c.fmod most, ⟨s.c.fdiv most, s.m, by rw [Int.fdiv_eq_ediv_of_nonneg _ (by omega)]; exact Int.ediv_nonneg s.c0 (by omega), s.m0, s.m1⟩)
  else (0, s)
theorem e__law_take {s : Stm} {most : Int} (h0 : 0 < most) : fn__law_take [eStm s, .int most] = .ok (.int (t__law_take s most).1) .ff (eStm (t__law_take s most).2) := by
  obtain ⟨c, m, hc, hm0, hm1⟩ := s
  have hn : most ≠ 0 := by omega
  unfold fn__law_take runF fb__law_take t__law_take eStm
  by_cases z : c = 0
  · subst z
    have k1 : mulOk m 48271 = true := mok (a := 40) (b := 20) (by omega) (by decide) (by decide)
    have k2 : mulOk (mixed m) (mixed m) = true := by
      have := mixed_b m
      exact mok (a := 40) (b := 40) (by omega) (by omega) (by decide)
    have k3 := k2
    unfold mixed at k3
    simp [k1, k3, hn, mixed]
  · have k1 : divOk c most = true := divOk_of hn
    simp [z, k1, hn, h0]
theorem take_b {s : Stm} {most : Int} (h0 : 0 < most) : 0 ≤ (t__law_take s most).1 ∧ (t__law_take s most).1 < most := by
  have hn : most ≠ 0 := by omega
  unfold t__law_take
  split
  · rw [Int.fmod_eq_emod_of_nonneg _ (show (0 : Int) ≤ most by omega)]; exact ⟨Int.emod_nonneg _ hn, Int.emod_lt_of_pos _ h0⟩
  · dsimp only
    rw [Int.fmod_eq_emod_of_nonneg _ (show (0 : Int) ≤ most by omega)]; exact ⟨Int.emod_nonneg _ hn, Int.emod_lt_of_pos _ h0⟩
theorem sq_b {k : Int} (h0 : 0 ≤ k) (h1 : k < 1000) : 0 ≤ k * k ∧ k * k ≤ 1000000 :=
  ⟨Int.mul_nonneg h0 h0, by
    have : k * k ≤ 1000 * 1000 := Int.mul_le_mul (by omega) (by omega) h0 (by omega)
    omega⟩
def t__law_stream (ns : List Int) (k : Int) : Stm :=
  if h : 0 ≤ k ∧ k < 1000 then
    (if k < ns.length then ⟨if ix ns k < 1000000000000000000 then 0 else ix ns k, (ix ns k).fmod 2147483629 + k * k + 1, by split <;> omega, by
        rw [Int.fmod_eq_emod_of_nonneg _ (by decide)]
        have := sq_b h.1 h.2
        omega, by
        rw [Int.fmod_eq_emod_of_nonneg _ (by decide)]
        have := sq_b h.1 h.2
        omega⟩
    else ⟨0, k * k + 11, by decide, by have := sq_b h.1 h.2; omega, by have := sq_b h.1 h.2; omega⟩)
  else default
theorem e__law_stream {ns : List Int} {k : Int} (h : 0 ≤ k ∧ k < 1000) : fn__law_stream [.scr ns, .int k] = .ok (eStm (t__law_stream ns k)) .tt .non := by
  have k1 : mulOk k k = true := mok (a := 20) (b := 20) (by omega) (by omega) (by decide)
  unfold fn__law_stream runF fb__law_stream t__law_stream
  rw [dif_pos h]
  by_cases c : k < ns.length
  · have e : L2.atI ns k = some (ix ns k) := by
      have := at_of (F := (id : Int → Int)) (xs := ns) (i := k) ⟨by omega, c⟩
      rw [List.map_id] at this
      exact this
    have hp : powOk 10 18 = true := by decide
    rw [if_pos c]
    by_cases hx : ix ns k < 1000000000000000000
    · simp [c, e, k1, hp, hx, eStm]
    · simp [c, e, k1, hp, hx, eStm]
  · rw [if_neg c]
    simp [c, k1, eStm]
end Std
namespace K02
open PySem PySem.Spec PyProof.Rows L2 Dt
noncomputable def fb_law : M Fl :=
  mSeq (mFor (mRange1 (mCons (M.pure (.int 4)) mNil)) (gN 1) (mSeq (mSet 2 (mCallN 2 none Std.fn__law_stream (xV (mVar 0) (xV (mVar 1) xNil))))
    (mSeq (mSet 3 (mOf (mBin dMul (mBin dIx (mFz (mLst (mCons (M.pure (.int 0)) (mCons (M.pure (.int 1)) (mCons (mUn dNeg (M.pure (.int 1))) mNil))))) (mFz (mCallN 2 (some 0) Std.fn__law_take (xS 2 (xV (M.pure (.int 3)) xNil))))) (mFz (mCallN 2 (some 0) Std.fn__law_take (xS 2 (xV (mBin dPow (M.pure (.int 10)) (M.pure (.int 6))) xNil)))))))
    (mSeq (mFor (mRange1 (mCons (mFz (mCallN 2 (some 0) Std.fn__law_take (xS 2 (xV (M.pure (.int 5)) xNil)))) mNil)) (gN 4) (mSeq (mSet 3 (mOf (mBin dMul (mVar 3) (mBin dAdd (M.pure (.int 1)) (mFz (mCallN 2 (some 0) Std.fn__law_take (xS 2 (xV (mBin dPow (M.pure (.int 10)) (M.pure (.int 6))) xNil))))))))
    (mSeq (mKill [4]) mNx)))
    (mSeq (mSet 5 (mCallN 2 none Std.fn_fraction (xV (mVar 3) (xV (mBin dAdd (M.pure (.int 1)) (mFz (mCallN 2 (some 0) Std.fn__law_take (xS 2 (xV (M.pure (.int 50)) xNil))))) xNil))))
    (mSeq (mIfRef ["NoFraction"] decNF (mFz (mCallN 2 none Std.fn_fraction (xV (mVar 3) (xV (M.pure (.int 0)) xNil)))))
    (mSeq (mIfRef ["NoFraction"] decNF (mFz (mCallN 2 none Std.fn_over (xV (mVar 5) (xV (mTup (mCons (M.pure (.int 0)) (mCons (M.pure (.int 1)) mNil))) xNil)))))
    (mSeq (mIfRef ["NoFraction"] decNF (mFz (mCallN 2 none Std.fn_over (xV (mVar 5) (xV (mFz (mCallN 2 none Std.fn_times (xV (mTup (mCons (M.pure (.int 0)) (mCons (M.pure (.int 1)) mNil))) (xV (mVar 5) xNil)))) xNil)))))
    (mSeq (mIf (mAnd (mTest (mBin dNe (mBin dIx (mVar 5) (M.pure (.int 0))) (M.pure (.int 0)))) (mTest (mBin dNe (mFz (mCallN 2 none Std.fn_over (xV (mTup (mCons (M.pure (.int 0)) (mCons (M.pure (.int 1)) mNil))) (xV (mVar 5) xNil)))) (mTup (mCons (M.pure (.int 0)) (mCons (M.pure (.int 1)) mNil)))))) (mRet (mOf (M.pure (.bl false)))) mNx)
    (mSeq (mKill [1, 2, 3, 5]) mNx))))))))))
    (mRet (mOf (M.pure (.bl true))))
noncomputable def fn_law : List D → Rf := runF none 6 fb_law
noncomputable def t_law (v_script : (List Int)) : Bool :=
  fwc (flw ((fun (z1 : Unit) (xv2 : Int) => bd (Std.t__law_stream v_script xv2) (fun (v_stream_here_3 : Std.Stm) => bd ((Std.t__law_take ((Std.t__law_take v_stream_here_3 ((3 : Int))).2) ((1000000 : Int))).2, ((ix (([(0 : Int), (1 : Int), (-(1 : Int))] : List Int)) ((Std.t__law_take v_stream_here_3 ((3 : Int))).1)) * (Std.t__law_take ((Std.t__law_take v_stream_here_3 ((3 : Int))).2) ((1000000 : Int))).1)) (fun (z4 : (Std.Stm × Int)) => bd ((rangeI 0 ((Std.t__law_take z4.1 ((5 : Int))).1)).foldl (fun (z5 : (Std.Stm × Int)) (xv6 : Int) => bd ((Std.t__law_take z5.1 ((1000000 : Int))).2, (z5.2 * ((1 : Int) + (Std.t__law_take z5.1 ((1000000 : Int))).1))) (fun (z7 : (Std.Stm × Int)) => (z7.1, z7.2))) ((Std.t__law_take z4.1 ((5 : Int))).2, z4.2)) (fun (z8 : (Std.Stm × Int)) => bd ((Std.t__law_take z8.1 ((50 : Int))).2, (Rat.divInt z8.2 (((1 : Int) + (Std.t__law_take z8.1 ((50 : Int))).1)))) (fun (z9 : (Std.Stm × Rat)) => cond ((!decide (z9.2.num = (0 : Int))) && (!decide (((0 : Rat) / z9.2) = (0 : Rat)))) (Fw.rt false) (Fw.nx ())))))) : Unit → Int → Fw Unit Bool) (rangeI 0 ((4 : Int))) ()) (fun v => v) (fun (z11 : Unit) => true)
def s_law (v_script : (List Int)) : Prop :=
  (sflw ((fun (z1 : Unit) (xv2 : Int) => bd (Std.t__law_stream v_script xv2) (fun (v_stream_here_3 : Std.Stm) => bd ((Std.t__law_take ((Std.t__law_take v_stream_here_3 ((3 : Int))).2) ((1000000 : Int))).2, ((ix (([(0 : Int), (1 : Int), (-(1 : Int))] : List Int)) ((Std.t__law_take v_stream_here_3 ((3 : Int))).1)) * (Std.t__law_take ((Std.t__law_take v_stream_here_3 ((3 : Int))).2) ((1000000 : Int))).1)) (fun (z4 : (Std.Stm × Int)) => bd ((rangeI 0 ((Std.t__law_take z4.1 ((5 : Int))).1)).foldl (fun (z5 : (Std.Stm × Int)) (xv6 : Int) => bd ((Std.t__law_take z5.1 ((1000000 : Int))).2, (z5.2 * ((1 : Int) + (Std.t__law_take z5.1 ((1000000 : Int))).1))) (fun (z7 : (Std.Stm × Int)) => (z7.1, z7.2))) ((Std.t__law_take z4.1 ((5 : Int))).2, z4.2)) (fun (z8 : (Std.Stm × Int)) => bd ((Std.t__law_take z8.1 ((50 : Int))).2, (Rat.divInt z8.2 (((1 : Int) + (Std.t__law_take z8.1 ((50 : Int))).1)))) (fun (z9 : (Std.Stm × Rat)) => cond ((!decide (z9.2.num = (0 : Int))) && (!decide (((0 : Rat) / z9.2) = (0 : Rat)))) (Fw.rt false) (Fw.nx ())))))) : Unit → Int → Fw Unit Bool) (fun (z1 : Unit) (xv2 : Int) => ((0 ≤ xv2 ∧ xv2 < 1000) ∧ (bd (Std.t__law_stream v_script xv2) (fun (v_stream_here_3 : Std.Stm) => ((InB (([(0 : Int), (1 : Int), (-(1 : Int))] : List Int)).length ((Std.t__law_take v_stream_here_3 ((3 : Int))).1)) ∧ (mulOk ((ix (([(0 : Int), (1 : Int), (-(1 : Int))] : List Int)) ((Std.t__law_take v_stream_here_3 ((3 : Int))).1))) ((Std.t__law_take ((Std.t__law_take v_stream_here_3 ((3 : Int))).2) ((1000000 : Int))).1) = true) ∧ (bd ((Std.t__law_take ((Std.t__law_take v_stream_here_3 ((3 : Int))).2) ((1000000 : Int))).2, ((ix (([(0 : Int), (1 : Int), (-(1 : Int))] : List Int)) ((Std.t__law_take v_stream_here_3 ((3 : Int))).1)) * (Std.t__law_take ((Std.t__law_take v_stream_here_3 ((3 : Int))).2) ((1000000 : Int))).1)) (fun (z4 : (Std.Stm × Int)) => ((-100000000 < ((Std.t__law_take z4.1 ((5 : Int))).1) ∧ ((Std.t__law_take z4.1 ((5 : Int))).1) < 100000000) ∧ (sfl (fun (z5 : (Std.Stm × Int)) (xv6 : Int) => bd ((Std.t__law_take z5.1 ((1000000 : Int))).2, (z5.2 * ((1 : Int) + (Std.t__law_take z5.1 ((1000000 : Int))).1))) (fun (z7 : (Std.Stm × Int)) => (z7.1, z7.2))) (fun (z5 : (Std.Stm × Int)) (xv6 : Int) => (mulOk z5.2 (((1 : Int) + (Std.t__law_take z5.1 ((1000000 : Int))).1)) = true)) (rangeI 0 ((Std.t__law_take z4.1 ((5 : Int))).1)) ((Std.t__law_take z4.1 ((5 : Int))).2, z4.2)) ∧ (bd ((rangeI 0 ((Std.t__law_take z4.1 ((5 : Int))).1)).foldl (fun (z5 : (Std.Stm × Int)) (xv6 : Int) => bd ((Std.t__law_take z5.1 ((1000000 : Int))).2, (z5.2 * ((1 : Int) + (Std.t__law_take z5.1 ((1000000 : Int))).1))) (fun (z7 : (Std.Stm × Int)) => (z7.1, z7.2))) ((Std.t__law_take z4.1 ((5 : Int))).2, z4.2)) (fun (z8 : (Std.Stm × Int)) => (((((1 : Int) + (Std.t__law_take z8.1 ((50 : Int))).1)) ≠ 0) ∧ (bd ((Std.t__law_take z8.1 ((50 : Int))).2, (Rat.divInt z8.2 (((1 : Int) + (Std.t__law_take z8.1 ((50 : Int))).1)))) (fun (z9 : (Std.Stm × Rat)) => ((IsZ (Std.fn_fraction [D.int z8.2, D.int (0 : Int)])) ∧ (rzOf (Std.fn_fraction [D.int z8.2, D.int (0 : Int)]) = ("NoFraction" : Str)) ∧ (((IsQ (((0 : Int), (1 : Int)))) ∧ (IsZ (Std.fn_over [fq z9.2, fq (mkq (((0 : Int), (1 : Int))))])) ∧ (rzOf (Std.fn_over [fq z9.2, fq (mkq (((0 : Int), (1 : Int))))]) = ("NoFraction" : Str)) ∧ (((Std.SQ ((0 : Rat)) z9.2) ∧ (IsZ (Std.fn_over [fq z9.2, fq ((0 : Rat) * z9.2)])) ∧ (rzOf (Std.fn_over [fq z9.2, fq ((0 : Rat) * z9.2)]) = ("NoFraction" : Str)) ∧ (((!decide (z9.2.num = (0 : Int))) = true → ((Std.SQ ((0 : Rat)) z9.2) ∧ (z9.2 ≠ 0)))))))))))))))))))))) (rangeI 0 ((4 : Int))) ())
theorem e_law {v_script : (List Int)} (h : s_law v_script) : fn_law [D.scr v_script] = .ok (D.bl (t_law v_script)) .ff .non := by
  refine run0 (F := D.bl) (o := .ff) (fb := fb_law) (x := t_law v_script) ?_
  show JR D.bl .ff (fb_law [.fz (D.scr v_script), .un, .un, .un, .un, .un]) _
  delta fb_law t_law
  delta s_law at h
  exact forW (F := D.int) (J' := JR D.bl .ff) (ctx := fun (z1 : Unit) => [.fz (D.scr v_script), .un, .un, .un, .un, .un]) (step := ((fun (z1 : Unit) (xv2 : Int) => bd (Std.t__law_stream v_script xv2) (fun (v_stream_here_3 : Std.Stm) => bd ((Std.t__law_take ((Std.t__law_take v_stream_here_3 ((3 : Int))).2) ((1000000 : Int))).2, ((ix (([(0 : Int), (1 : Int), (-(1 : Int))] : List Int)) ((Std.t__law_take v_stream_here_3 ((3 : Int))).1)) * (Std.t__law_take ((Std.t__law_take v_stream_here_3 ((3 : Int))).2) ((1000000 : Int))).1)) (fun (z4 : (Std.Stm × Int)) => bd ((rangeI 0 ((Std.t__law_take z4.1 ((5 : Int))).1)).foldl (fun (z5 : (Std.Stm × Int)) (xv6 : Int) => bd ((Std.t__law_take z5.1 ((1000000 : Int))).2, (z5.2 * ((1 : Int) + (Std.t__law_take z5.1 ((1000000 : Int))).1))) (fun (z7 : (Std.Stm × Int)) => (z7.1, z7.2))) ((Std.t__law_take z4.1 ((5 : Int))).2, z4.2)) (fun (z8 : (Std.Stm × Int)) => bd ((Std.t__law_take z8.1 ((50 : Int))).2, (Rat.divInt z8.2 (((1 : Int) + (Std.t__law_take z8.1 ((50 : Int))).1)))) (fun (z9 : (Std.Stm × Rat)) => cond ((!decide (z9.2.num = (0 : Int))) && (!decide (((0 : Rat) / z9.2) = (0 : Rat)))) (Fw.rt false) (Fw.nx ())))))) : Unit → Int → Fw Unit Bool)) (S := (fun (z1 : Unit) (xv2 : Int) => ((0 ≤ xv2 ∧ xv2 < 1000) ∧ (bd (Std.t__law_stream v_script xv2) (fun (v_stream_here_3 : Std.Stm) => ((InB (([(0 : Int), (1 : Int), (-(1 : Int))] : List Int)).length ((Std.t__law_take v_stream_here_3 ((3 : Int))).1)) ∧ (mulOk ((ix (([(0 : Int), (1 : Int), (-(1 : Int))] : List Int)) ((Std.t__law_take v_stream_here_3 ((3 : Int))).1))) ((Std.t__law_take ((Std.t__law_take v_stream_here_3 ((3 : Int))).2) ((1000000 : Int))).1) = true) ∧ (bd ((Std.t__law_take ((Std.t__law_take v_stream_here_3 ((3 : Int))).2) ((1000000 : Int))).2, ((ix (([(0 : Int), (1 : Int), (-(1 : Int))] : List Int)) ((Std.t__law_take v_stream_here_3 ((3 : Int))).1)) * (Std.t__law_take ((Std.t__law_take v_stream_here_3 ((3 : Int))).2) ((1000000 : Int))).1)) (fun (z4 : (Std.Stm × Int)) => ((-100000000 < ((Std.t__law_take z4.1 ((5 : Int))).1) ∧ ((Std.t__law_take z4.1 ((5 : Int))).1) < 100000000) ∧ (sfl (fun (z5 : (Std.Stm × Int)) (xv6 : Int) => bd ((Std.t__law_take z5.1 ((1000000 : Int))).2, (z5.2 * ((1 : Int) + (Std.t__law_take z5.1 ((1000000 : Int))).1))) (fun (z7 : (Std.Stm × Int)) => (z7.1, z7.2))) (fun (z5 : (Std.Stm × Int)) (xv6 : Int) => (mulOk z5.2 (((1 : Int) + (Std.t__law_take z5.1 ((1000000 : Int))).1)) = true)) (rangeI 0 ((Std.t__law_take z4.1 ((5 : Int))).1)) ((Std.t__law_take z4.1 ((5 : Int))).2, z4.2)) ∧ (bd ((rangeI 0 ((Std.t__law_take z4.1 ((5 : Int))).1)).foldl (fun (z5 : (Std.Stm × Int)) (xv6 : Int) => bd ((Std.t__law_take z5.1 ((1000000 : Int))).2, (z5.2 * ((1 : Int) + (Std.t__law_take z5.1 ((1000000 : Int))).1))) (fun (z7 : (Std.Stm × Int)) => (z7.1, z7.2))) ((Std.t__law_take z4.1 ((5 : Int))).2, z4.2)) (fun (z8 : (Std.Stm × Int)) => (((((1 : Int) + (Std.t__law_take z8.1 ((50 : Int))).1)) ≠ 0) ∧ (bd ((Std.t__law_take z8.1 ((50 : Int))).2, (Rat.divInt z8.2 (((1 : Int) + (Std.t__law_take z8.1 ((50 : Int))).1)))) (fun (z9 : (Std.Stm × Rat)) => ((IsZ (Std.fn_fraction [D.int z8.2, D.int (0 : Int)])) ∧ (rzOf (Std.fn_fraction [D.int z8.2, D.int (0 : Int)]) = ("NoFraction" : Str)) ∧ (((IsQ (((0 : Int), (1 : Int)))) ∧ (IsZ (Std.fn_over [fq z9.2, fq (mkq (((0 : Int), (1 : Int))))])) ∧ (rzOf (Std.fn_over [fq z9.2, fq (mkq (((0 : Int), (1 : Int))))]) = ("NoFraction" : Str)) ∧ (((Std.SQ ((0 : Rat)) z9.2) ∧ (IsZ (Std.fn_over [fq z9.2, fq ((0 : Rat) * z9.2)])) ∧ (rzOf (Std.fn_over [fq z9.2, fq ((0 : Rat) * z9.2)]) = ("NoFraction" : Str)) ∧ (((!decide (z9.2.num = (0 : Int))) = true → ((Std.SQ ((0 : Rat)) z9.2) ∧ (z9.2 ≠ 0))))))))))))))))))))))) (xs := (rangeI 0 ((4 : Int)))) (s := ()) (kr := (fun v => v)) (kn := fun (z11 : Unit) => true) (S2 := fun (z11 : Unit) => True) isRt_R (fun _ _ h => h) (i_r1 (a1 rfl a0) (show -100000000 < ((4 : Int)) ∧ ((4 : Int)) < 100000000 by decide)) h (@sfwc_T _ _ _) (fun z1 xv2 h => ⟨_, rfl, sqB (ctx := fun (v_stream_here_3 : Std.Stm) => [.fz (D.scr v_script), zI xv2, .ow (Std.eStm v_stream_here_3), .un, .un, .un]) (sSetO (cN (x1 (vf 0 rfl) (x1 (vf 1 rfl) x0)) rfl rfl (Std.e__law_stream (ns := v_script) (k := xv2) h.1 :) rfl) rfl) h.2 (fun v_stream_here_3 h => sqB (ctx := fun (z4 : (Std.Stm × Int)) => [.fz (D.scr v_script), zI xv2, .ow (Std.eStm z4.1), zI z4.2, .un, .un]) (sSet (mof (b2 (b2 (mfz (mlst (a1 rfl (a1 rfl (a1 (u1 rfl rfl) a0))))) (mfz (cN (x1s (i := 2) rfl rfl (x1 rfl x0)) rfl rfl (Std.e__law_take (s := v_stream_here_3) (most := (3 : Int)) (show 0 < ((3 : Int)) by decide) :) rfl)) (o_ixL (F := D.int) (xs := ([(0 : Int), (1 : Int), (-(1 : Int))] : List Int)) h.1)) (mfz (cN (x1s (i := 2) rfl rfl (x1 (b2 rfl rfl (o_pow (by decide))) x0)) rfl rfl (Std.e__law_take (s := (Std.t__law_take v_stream_here_3 ((3 : Int))).2) (most := (1000000 : Int)) (show 0 < ((1000000 : Int)) by decide) :) rfl)) (o_mul h.2.1))) rfl) h.2.2 (fun z4 h => sqB (ctx := fun (z8 : (Std.Stm × Int)) => [.fz (D.scr v_script), zI xv2, .ow (Std.eStm z8.1), zI z8.2, .un, .un]) (forN (F := D.int) (ctx := fun (z5 : (Std.Stm × Int)) => [.fz (D.scr v_script), zI xv2, .ow (Std.eStm z5.1), zI z5.2, .un, .un]) (i_r1 (a1 (mfz (cN (x1s (i := 2) rfl rfl (x1 rfl x0)) rfl rfl (Std.e__law_take (s := z4.1) (most := (5 : Int)) (show 0 < ((5 : Int)) by decide) :) rfl)) a0) h.1) h.2.1 (fun z5 xv6 h => ⟨_, rfl, sqB (ctx := fun (z7 : (Std.Stm × Int)) => [.fz (D.scr v_script), zI xv2, .ow (Std.eStm z7.1), zI z7.2, zI xv6, .un]) (S := fun _ => True) (sSet (mof (b2 (vf 3 rfl) (b2 rfl (mfz (cN (x1s (i := 2) rfl rfl (x1 (b2 rfl rfl (o_pow (by decide))) x0)) rfl rfl (Std.e__law_take (s := z5.1) (most := (1000000 : Int)) (show 0 < ((1000000 : Int)) by decide) :) rfl)) rfl) (o_mul h))) rfl) trivial (fun z7 _ => sq (sKill (show _ = [.fz (D.scr v_script), zI xv2, .ow (Std.eStm z7.1), zI z7.2, .un, .un] from rfl)) rfl)⟩)) h.2.2 (fun z8 h => sqB (ctx := fun (z9 : (Std.Stm × Rat)) => [.fz (D.scr v_script), zI xv2, .ow (Std.eStm z9.1), zI z8.2, .un, zQ z9.2]) (sSet (cN (x1 (vf 3 rfl) (x1 (b2 rfl (mfz (cN (x1s (i := 2) rfl rfl (x1 rfl x0)) rfl rfl (Std.e__law_take (s := z8.1) (most := (50 : Int)) (show 0 < ((50 : Int)) by decide) :) rfl)) rfl) x0)) rfl rfl (Std.e_fraction (a := z8.2) (b := ((1 : Int) + (Std.t__law_take z8.1 ((50 : Int))).1)) h.1 :) rfl) rfl) h.2 (fun z9 h => sq (ρ1 := [.fz (D.scr v_script), zI xv2, .ow (Std.eStm z9.1), zI z8.2, .un, zQ z9.2]) (sIfRef (bz (cZ (x1 (vf 3 rfl) (x1 rfl x0)) rfl rfl h.1)) h.2.1) (bdh h.2.2 (fun h => sq (ρ1 := [.fz (D.scr v_script), zI xv2, .ow (Std.eStm z9.1), zI z8.2, .un, zQ z9.2]) (sIfRef (bz (cZ (x1 (vf 5 rfl) (x1 ((cQ (mtup (a1 rfl (a1 rfl a0))) h.1)) x0)) rfl rfl h.2.1)) h.2.2.1) (bdh h.2.2.2 (fun h => sq (ρ1 := [.fz (D.scr v_script), zI xv2, .ow (Std.eStm z9.1), zI z8.2, .un, zQ z9.2]) (sIfRef (bz (cZ (x1 (vf 5 rfl) (x1 (mfz (cN (x1 (mtup (a1 rfl (a1 rfl a0))) (x1 (vf 5 rfl) x0)) rfl rfl (Std.e_times (p := (0 : Rat)) (q := z9.2) h.1 :) rfl)) x0)) rfl rfl h.2.1)) h.2.2.1) (bdh h.2.2.2 (fun h => sqIf (an (tst (b2 (b2 (vf 5 rfl) rfl rfl) rfl dNe_i)) (fun hc10 => tst (b2 (mfz (cN (x1 (mtup (a1 rfl (a1 rfl a0))) (x1 (vf 5 rfl) x0)) rfl rfl (Std.e_over (p := (0 : Rat)) (q := z9.2) (h hc10).1 (h hc10).2 :) rfl)) (mtup (a1 rfl (a1 rfl a0))) ((o_ne (F := fq) (x := ((0 : Rat) / z9.2)) (y := (0 : Rat)) gQ))))) (fun _ => sqRet (mof rfl) (jw_rt (jr_mk rfl))) (fun _ => sq rfl (sq (sKill (show _ = [.fz (D.scr v_script), .un, .un, .un, .un, .un] from rfl)) (jw_nx rfl)))))))))))))⟩) (fun z11 h => sRet (mof rfl) (jr_mk rfl))
end K02
namespace Dt
open PySem L2
@[simp] theorem bd_eq {α β : Sort _} (v : α) (b : α → β) : bd v b = b v := rfl
section
variable {σ α β ρ : Type}
theorem sfl_of {f : σ → α → σ} {S : σ → α → Prop} (I : Nat → σ → Prop) : ∀ (xs : List α) (s : σ) (k : Nat), I k s → (∀ j (hj : j < xs.length) s, I (k + j) s → S s xs[j] ∧ I (k + j + 1) (f s xs[j])) → sfl f S xs s ∧ I (k + xs.length) (xs.foldl f s)
  | [], s, k, h, _ => ⟨trivial, h⟩
  | x :: r, s, k, h, hs => by
    obtain ⟨h1, h2⟩ := hs 0 (by simp) s h
    obtain ⟨h3, h4⟩ := sfl_of I r (f s x) (k + 1) h2 (fun j hj s hI => by
      have := hs (j + 1) (by simpa using hj) s (by rw [show k + (j + 1) = k + 1 + j by omega]; exact hI)
      rw [show k + (j + 1) + 1 = k + 1 + j + 1 by omega] at this
      exact this)
    refine ⟨⟨h1, h3⟩, ?_⟩
    rw [show k + (x :: r).length = k + 1 + r.length by simp; omega]
    exact h4
theorem sfl_of0 {f : σ → α → σ} {S : σ → α → Prop} (I : Nat → σ → Prop) (xs : List α) (s : σ) (h : I 0 s) (hs : ∀ j (hj : j < xs.length) s, I j s → S s xs[j] ∧ I (j + 1) (f s xs[j])) : sfl f S xs s ∧ I xs.length (xs.foldl f s) := by
  have := sfl_of I xs s 0 h (fun j hj s hI => by rw [Nat.zero_add] at hI ⊢; exact hs j hj s hI)
  rw [Nat.zero_add] at this; exact this
theorem flw_nx {f : σ → α → Fw σ ρ} {S : σ → α → Prop} (I : Nat → σ → Prop) : ∀ (xs : List α) (s : σ) (k : Nat), I k s → (∀ j (hj : j < xs.length) s, I (k + j) s → S s xs[j] ∧ ∃ s', f s xs[j] = .nx s' ∧ I (k + j + 1) s') → sflw f S xs s ∧ ∃ s', flw f xs s = .nx s' ∧ I (k + xs.length) s'
  | [], s, k, h, _ => ⟨trivial, s, rfl, h⟩
  | x :: r, s, k, h, hs => by
    obtain ⟨h1, s', h2, h3⟩ := hs 0 (by simp) s h
    obtain ⟨h4, s2, h5, h6⟩ := flw_nx I r s' (k + 1) h3 (fun j hj s hI => by
      have := hs (j + 1) (by simpa using hj) s (by rw [show k + (j + 1) = k + 1 + j by omega]; exact hI)
      rw [show k + (j + 1) + 1 = k + 1 + j + 1 by omega] at this
      exact this)
    have h2' : f s x = .nx s' := h2
    refine ⟨⟨h1, by rw [h2']; exact h4⟩, s2, ?_, ?_⟩
    · unfold flw; rw [h2']; exact h5
    · rw [show k + (x :: r).length = k + 1 + r.length by simp; omega]; exact h6
theorem flw_prop {f : σ → α → Fw σ ρ} {S : σ → α → Prop} (I : σ → Prop) (xs : List α) (s : σ) (h : I s) (hs : ∀ x ∈ xs, ∀ s, I s → S s x ∧ ∃ s', f s x = .nx s' ∧ I s') : sflw f S xs s ∧ ∃ s', flw f xs s = .nx s' ∧ I s' :=
  flw_nx (fun _ s => I s) xs s 0 h (fun j hj s hI => hs _ (List.getElem_mem hj) s hI)
end
theorem rangeI_len (lo hi : Int) : (rangeI lo hi).length = (hi - lo).toNat := by unfold rangeI; rw [List.length_map, List.length_range]
theorem mem_rangeI {lo hi x : Int} : x ∈ rangeI lo hi ↔ lo ≤ x ∧ x < hi := by
  unfold rangeI
  rw [List.mem_map]
  constructor
  · rintro ⟨k, hk, rfl⟩
    rw [List.mem_range] at hk
    omega
  · intro h
    exact ⟨(x - lo).toNat, by rw [List.mem_range]; omega, by omega⟩
theorem ix_mem {α : Type} [Inhabited α] {xs : List α} {i : Int} (h : InB xs.length i) : ix xs i ∈ xs := by
  obtain ⟨_, h2⟩ := ixN_of h
  unfold ix
  rw [List.getD_eq_getElem?_getD, List.getElem?_eq_getElem h2]
  exact List.getElem_mem h2
end Dt
namespace Dt
def IsT (b : Bool) : Prop := b = true
section
variable {α β : Type} {P : β → Prop} {A B S1 S2 : Prop} {t t1 t2 : β} {c : Bool}
theorem hd_flwT {σ ρ : Type} {f : σ → α → Fw σ ρ} {S : σ → α → Prop} {xs : List α} {s : σ} {kr : ρ → β} {kn : σ → β} (I : σ → Prop) (h0 : I s) (hs : ∀ x ∈ xs, ∀ s, I s → S s x ∧ ∃ s', f s x = .nx s' ∧ I s') (h : ∀ z, I z → P (kn z)) : sflw f S xs s ∧ P (fwc (flw f xs s) kr kn) := by
  obtain ⟨h1, z, h2, h3⟩ := flw_prop I xs s h0 hs
  rw [h2]
  exact ⟨h1, h z h3⟩
end
end Dt
namespace K02
open PySem L2 Dt Std
theorem step_b {a b : Int} {n : Nat} (ha : a.natAbs < 2 ^ n) (h0 : 0 ≤ b) (h1 : b < 1000000) : (a * (1 + b)).natAbs < 2 ^ (n + 20) := by
  rw [Int.natAbs_mul]
  exact mul_lt_two ha (by
    have : (2 : Nat) ^ 20 = 1048576 := by decide
    omega)
theorem first_b {a b : Int} (ha : a ∈ [(0 : Int), 1, -1]) (h0 : 0 ≤ b) (h1 : b < 1000000) : (a * b).natAbs < 2 ^ 20 := by
  have : (2 : Nat) ^ 20 = 1048576 := by decide
  simp only [List.mem_cons, List.not_mem_nil, or_false] at ha
  rcases ha with rfl | rfl | rfl <;> omega
theorem law_both (ns : List Int) : s_law ns ∧ IsT (t_law ns) := by
  unfold s_law t_law
  refine hd_flwT (fun _ => True) trivial ?_ (fun z _ => rfl)
  intro k hk _ _
  have hk2 := mem_rangeI.mp hk
  refine ⟨⟨⟨hk2.1, by omega⟩, ?_⟩, (), ?_, trivial⟩
  · refine (?_ : bd _ _)
    simp only [bd_eq]
    generalize t__law_stream ns k = s
    have t1 := take_b (s := s) (most := 3) (by decide)
    generalize t__law_take s 3 = r1 at t1
    have t2 := take_b (s := r1.2) (most := 1000000) (by decide)
    generalize t__law_take r1.2 1000000 = r2 at t2
    have iB : InB ([(0 : Int), (1 : Int), (-(1 : Int))] : List Int).length r1.1 := ⟨by show (-3 : Int) ≤ r1.1; omega, by show r1.1 < 3; omega⟩
    have m1 := ix_mem (xs := [(0 : Int), (1 : Int), (-(1 : Int))]) iB
    have b0 := first_b m1 t2.1 t2.2
    refine ⟨iB, mok (a := 20) (b := 20) (by
      have e : (2 : Nat) ^ 20 = 1048576 := by decide
      generalize ix [(0 : Int), (1 : Int), (-(1 : Int))] r1.1 = a at m1
      simp only [List.mem_cons, List.not_mem_nil, or_false] at m1
      rcases m1 with rfl | rfl | rfl <;> decide) (by
      have e : (2 : Nat) ^ 20 = 1048576 := by decide
      omega) (by decide), ?_⟩
    generalize ix [(0 : Int), (1 : Int), (-(1 : Int))] r1.1 * r2.1 = a0 at b0
    have t3 := take_b (s := r2.2) (most := 5) (by decide)
    generalize t__law_take r2.2 5 = r3 at t3
    have hI := sfl_of0 (f := fun (z5 : Stm × Int) (_ : Int) => ((t__law_take z5.1 1000000).2, z5.2 * (1 + (t__law_take z5.1 1000000).1))) (S := fun (z5 : Stm × Int) (_ : Int) => mulOk z5.2 (1 + (t__law_take z5.1 1000000).1) = true) (fun j z => j ≤ 4 ∧ z.2.natAbs < 2 ^ (20 + 20 * j)) (rangeI 0 r3.1) (r3.2, a0) ⟨by omega, b0⟩ (fun j hj z hz => by
      rw [rangeI_len] at hj
      have t4 := take_b (s := z.1) (most := 1000000) (by decide)
      generalize t__law_take z.1 1000000 = r4 at t4
      have e : (2 : Nat) ^ 20 = 1048576 := by decide
      have pw : (2 : Nat) ^ (20 + 20 * j) ≤ 2 ^ 100 := Nat.pow_le_pow_right (by decide) (by omega)
      refine ⟨mok (a := 100) (b := 20) (Nat.lt_of_lt_of_le hz.2 pw) (by omega) (by decide), by omega, ?_⟩
      have := step_b hz.2 t4.1 t4.2
      rw [show 20 + 20 * j + 20 = 20 + 20 * (j + 1) by omega] at this
      exact this)
    refine ⟨by omega, hI.1, ?_⟩
    generalize (rangeI 0 r3.1).foldl _ _ = z8 at hI
    have hz := hI.2
    rw [rangeI_len] at hz
    have pw : (2 : Nat) ^ (20 + 20 * (r3.1 - 0).toNat) ≤ 2 ^ 100 := Nat.pow_le_pow_right (by decide) (by omega)
    have hz2 : z8.2.natAbs < 2 ^ 100 := Nat.lt_of_lt_of_le hz.2 pw
    have t5 := take_b (s := z8.1) (most := 50) (by decide)
    generalize t__law_take z8.1 50 = r5 at t5
    have n0 : (1 + r5.1) ≠ 0 := by omega
    have p100 : (50 : Nat) < 2 ^ 100 := by decide
    have sq : sz (Rat.divInt z8.2 (1 + r5.1)) ≤ 100 := sz_divI n0 hz2 (by omega)
    generalize Rat.divInt z8.2 (1 + r5.1) = q at sq
    have q0 : SQ q 0 := by unfold SQ; rw [sz_0]; omega
    have q0' : SQ 0 q := by unfold SQ; rw [sz_0]; omega
    have e1 := isZ_of (fraction_nought (a := z8.2))
    have m0 : mkq ((0 : Int), (1 : Int)) = 0 := by decide +kernel
    have e2 := isZ_of (over_nought q0)
    refine ⟨n0, e1.1, e1.2, ⟨by decide, by decide⟩, by rw [m0]; exact e2.1, by rw [m0]; exact e2.2, q0', by rw [Rat.zero_mul]; exact e2.1, by rw [Rat.zero_mul]; exact e2.2, fun h => ⟨q0', fun z => ?_⟩⟩
    rw [z] at h
    exact absurd h (by simp)
  · simp only [bd_eq]
    have c : ∀ q : Rat, ((!decide (q.num = (0 : Int))) && (!decide (((0 : Rat) / q) = (0 : Rat)))) = false := fun q => by
      have : (0 : Rat) / q = 0 := by rw [Rat.div_def, Rat.zero_mul]
      rw [this]; simp
    rw [c]
    rfl
theorem law_true {ns : List Int} : fn_law [.scr ns] = .ok (.bl true) .ff .non := by
  obtain ⟨h1, h2⟩ := law_both ns
  have := e_law h1
  rw [show t_law ns = true from h2] at this
  exact this
end K02
namespace Dt
open PySem PySem.Spec PyProof.Rows L2
theorem scK {N P : List Str} {sc : Scope} (a : sc.kind = .function := by rfl) (b : sc.isCoroutine = false := by rfl) (c : sc.isGenerator = false := by rfl) (d : N.Nodup := by decide +kernel) (e : N.take P.length = P := by rfl) (f : ∀ x ∈ P, sc.names.lookup x = some .local ∨ sc.names.lookup x = some .cell := by decide +kernel) (g : ∀ y ∈ sc.names, y.2 ≠ .free := by decide +kernel) : FnScope N P sc := ⟨a, b, c, d, e, f, g⟩
section
variable {P : Program} {w : World} {K : PySem.W.Frag} {mg : Str → Option Value} {base : Heap} {x y : Str} {st : Stmt} {N ps : List Str} {k : Nat} {m : Option Nat} {fb : M Fl}
abbrev BodyOk (P : Program) (w : World) (K : PySem.W.Frag) (mg : Str → Option Value) (base : Heap) (x : Str) (st : Stmt) (N : List Str) (k : Nat) (fb : M Fl) : Prop := ∀ (f : Addr) (cdv : Value) (A : Around) (outer : List PySem.Env) (s : Shared) (H : Hp) (E : XK), Quiet P base (A.deeper (envOfC x (defScope st) s.heap.objs.size f cdv)) → Room k (A.deeper (envOfC x (defScope st) s.heap.objs.size f cdv)) →
      Takes (cxOf (L2.CX P w) P w K mg base N x (defScope st) f cdv A outer s H E) (fun cls d _ H => E cls d H) →
      PassesOwn (model P w) (A.deeper (envOfC x (defScope st) s.heap.objs.size f cdv)) (envOfC x (defScope st) s.heap.objs.size f cdv) (cxOf (L2.CX P w) P w K mg base N x (defScope st) f cdv A outer s H E).xe →
      SVs (cxOf (L2.CX P w) P w K mg base N x (defScope st) f cdv A outer s H E) (fun cls d _ H => E cls d H) (defBody st) fb
abbrev BindOk (x : Str) (st : Stmt) (ps : List Str) : Prop := ∀ (kV doc pm : Value) (an : Option Addr) (cdv ct : Value) (us : List Value), us.length = ps.length → bindArgs (PySem.W.fnOf x x (defArgs st) (defBody st) (defScope st) .none kV doc pm an cdv ct) ⟨us, []⟩ = pure (ps.zip us)
theorem okm (T : FnIn K mg x st) (S : FnScope N ps (defScope st)) (hb : BodyOk P w K mg base x st N k fb) (hps : ps.length ≤ N.length := by decide)
    (B : BindOk x st ps := by first | (exact fun _ _ _ _ _ _ us hl => match us, hl with | [_], _ => rfl) | (exact fun _ _ _ _ _ _ us hl => match us, hl with | [_, _], _ => rfl) | (exact fun _ _ _ _ _ _ us hl => match us, hl with | [_, _, _], _ => rfl) | (exact fun _ _ _ _ _ _ us hl => match us, hl with | [_, _, _, _], _ => rfl) | (exact fun _ _ _ _ _ _ us hl => match us, hl with | [_, _, _, _, _], _ => rfl) | (exact fun _ _ _ _ _ _ us hl => match us, hl with | [_, _, _, _, _, _], _ => rfl) | (exact fun _ _ _ _ _ _ us hl => match us, hl with | [], _ => rfl)) : Ok P w K mg base x (k + 1) ps.length m (runF m N.length fb) := ok_mk T S hps B hb
end
end Dt
namespace K02
open PySem PySem.Spec PyProof.Rows L2 Dt
open LamX
namespace Wk
def topS (i : Nat) : Stmt := PySem.Challenge.pw_restlines_k02_fractions_refused.main.body.getD i (.Pass ⟨0, 0, 0, 0⟩)
abbrev s_common : Stmt := topS 4
abbrev s_fraction : Stmt := topS 5
abbrev s_times : Stmt := topS 6
abbrev s_over : Stmt := topS 7
abbrev s__law_stream : Stmt := topS 9
abbrev s__law_take : Stmt := topS 10
abbrev s__law_refused : Stmt := topS 11
abbrev s_law : Stmt := topS 12
structure Txt (K : PySem.W.Frag) (mg : Str → Option Value) : Prop where
  f_common : FnIn K mg "common" s_common
  f_fraction : FnIn K mg "fraction" s_fraction
  f_times : FnIn K mg "times" s_times
  f_over : FnIn K mg "over" s_over
  f__law_stream : FnIn K mg "_law_stream" s__law_stream
  f__law_take : FnIn K mg "_law_take" s__law_take
  f__law_refused : FnIn K mg "_law_refused" s__law_refused
  f_law : FnIn K mg "law" s_law
  b_ValueError : mg "ValueError" = none
  b_abs : mg "abs" = none
  b_isinstance : mg "isinstance" = none
  b_len : mg "len" = none
  b_range : mg "range" = none
  x_NoFraction : ExC K mg "NoFraction"
  x_RestError : ExC K mg "RestError"
  xc_NoFraction : XeC K mg "NoFraction"
  v_NoFraction_ValueError : IsM K mg "NoFraction" "ValueError" true
  m_NoFraction_NoFraction : ExM K mg "NoFraction" "NoFraction" true
  m_NoFraction_RestError : ExM K mg "NoFraction" "RestError" true
variable {P : Program} {w : World} {K : PySem.W.Frag} {mg : Str → Option Value} {base : Heap}
theorem sc_common : FnScope ["one", "other"] ["one", "other"] (defScope s_common) := scK
theorem ok_common {P : Program} {w : World} {K : PySem.W.Frag} {mg : Str → Option Value} {base : Heap} (T : Txt K mg) : Ok P w K mg base "common" 33 2 none Std.fn_common := by
  refine okm (fb := Std.fb_common) T.f_common sc_common (fun _ _ _ _ _ _ _ gd hr tk po => ?_)
  exact svs_cons (sv_while po (et_ne hr.units (ev_var 1) ev_int) (svs_one (sv_par (i := 0) (j := 1) rfl sc_common.nd (ea_cons (ev_var 1) (ea_cons (ev_mod (ev_var 0) (ev_var 1)) ea_nil)))))
    (svs_one (sv_ret (eo_move 0)))
theorem sc_fraction : FnScope ["above", "below", "share"] ["above", "below"] (defScope s_fraction) := scK
theorem ok_fraction {P : Program} {w : World} {K : PySem.W.Frag} {mg : Str → Option Value} {base : Heap} (T : Txt K mg) : Ok P w K mg base "fraction" 34 2 none Std.fn_fraction := by
  have g_common := @ok_common P w K mg base T
  refine okm (fb := Std.fb_fraction) T.f_fraction sc_fraction (fun _ _ _ _ _ _ _ gd hr tk po => ?_)
  exact svs_cons (sv_if (et_eq hr.units (ev_var 1) ev_int) (svs_one (sv_raise rfl tk T.x_NoFraction)) svs_nil)
    (svs_cons (sv_set (i := 2) (eo_fn g_common gd hr tk (ex_v (ev_abs T.b_abs (ea_cons (ev_var 0) ea_nil)) (ex_v (ev_abs T.b_abs (ea_cons (ev_var 1) ea_nil)) ex_nil))) sc_fraction.nd)
    (svs_cons (sv_if (et_lt (ev_var 1) ev_int) (svs_one (sv_set (i := 2) (eo_of (ev_sub ev_int (ev_var 2))) sc_fraction.nd)) svs_nil)
    (svs_one (sv_ret (eo_of (ev_tup (ea_cons (ev_fdiv gd hr (by decide) (ev_var 0) (ev_var 2)) (ea_cons (ev_fdiv gd hr (by decide) (ev_var 1) (ev_var 2)) ea_nil))))))))
theorem sc_times : FnScope ["one", "other"] ["one", "other"] (defScope s_times) := scK
theorem ok_times {P : Program} {w : World} {K : PySem.W.Frag} {mg : Str → Option Value} {base : Heap} (T : Txt K mg) : Ok P w K mg base "times" 35 2 none Std.fn_times := by
  have g_fraction := @ok_fraction P w K mg base T
  refine okm (fb := Std.fb_times) T.f_times sc_times (fun _ _ _ _ _ _ _ gd hr tk po => ?_)
  exact svs_one (sv_ret (eo_fn g_fraction gd hr tk (ex_v (ev_mul (ev_item (ev_var 0) ev_int) (ev_item (ev_var 1) ev_int)) (ex_v (ev_mul (ev_item (ev_var 0) ev_int) (ev_item (ev_var 1) ev_int)) ex_nil))))
theorem sc_over : FnScope ["one", "other"] ["one", "other"] (defScope s_over) := scK
theorem ok_over {P : Program} {w : World} {K : PySem.W.Frag} {mg : Str → Option Value} {base : Heap} (T : Txt K mg) : Ok P w K mg base "over" 35 2 none Std.fn_over := by
  have g_fraction := @ok_fraction P w K mg base T
  refine okm (fb := Std.fb_over) T.f_over sc_over (fun _ _ _ _ _ _ _ gd hr tk po => ?_)
  exact svs_one (sv_ret (eo_fn g_fraction gd hr tk (ex_v (ev_mul (ev_item (ev_var 0) ev_int) (ev_item (ev_var 1) ev_int)) (ex_v (ev_mul (ev_item (ev_var 0) ev_int) (ev_item (ev_var 1) ev_int)) ex_nil))))
theorem sc__law_stream : FnScope ["_law_script", "_law_k", "_law_cell", "_law_mixed"] ["_law_script", "_law_k"] (defScope s__law_stream) := scK
theorem ok__law_stream {P : Program} {w : World} {K : PySem.W.Frag} {mg : Str → Option Value} {base : Heap} (T : Txt K mg) : Ok P w K mg base "_law_stream" 33 2 none Std.fn__law_stream := by
  refine okm (fb := Std.fb__law_stream) T.f__law_stream sc__law_stream (fun _ _ _ _ _ _ _ gd hr tk po => ?_)
  exact svs_cons (sv_if (et_lt (ev_var 1) (ev_len T.b_len (ea_cons (ev_var 0) ea_nil))) (svs_cons (sv_set (i := 2) (eo_of (ev_item (ev_var 0) (ev_var 1))) sc__law_stream.nd)
    (svs_cons (sv_set (i := 3) (eo_of (ev_add (ev_add (ev_mod (ev_var 2) ev_int) (ev_mul (ev_var 1) (ev_var 1))) ev_int)) sc__law_stream.nd)
    (svs_cons (sv_if (et_lt (ev_var 2) (ev_pow ev_int ev_int)) (svs_one (sv_set (i := 2) (eo_of ev_int) sc__law_stream.nd)) svs_nil)
    (svs_one (sv_ret (eo_lst (ea_cons (ev_var 2) (ea_cons (ev_var 3) ea_nil)))))))) svs_nil)
    (svs_one (sv_ret (eo_lst (ea_cons ev_int (ea_cons (ev_add (ev_mul (ev_var 1) (ev_var 1)) ev_int) ea_nil)))))
theorem sc__law_take : FnScope ["_law_stream_here", "_law_most", "_law_digit"] ["_law_stream_here", "_law_most"] (defScope s__law_take) := scK
theorem ok__law_take {P : Program} {w : World} {K : PySem.W.Frag} {mg : Str → Option Value} {base : Heap} (T : Txt K mg) : Ok P w K mg base "_law_take" 33 2 (some 0) Std.fn__law_take := by
  refine okm (fb := Std.fb__law_take) T.f__law_take sc__law_take (fun _ _ _ _ _ _ _ gd hr tk po => ?_)
  exact svs_cons (sv_if (et_eq hr.units (ev_peek (i := 0) ev_int) ev_int) (svs_cons (sv_putAt (i := 0) (ev_mod (ev_add (ev_mul (ev_peek (i := 0) ev_int) ev_int) ev_int) ev_int) ev_int)
    (svs_one (sv_ret (eo_of (ev_mod (ev_mod (ev_mul (ev_peek (i := 0) ev_int) (ev_peek (i := 0) ev_int)) ev_int) (ev_var 1)))))) svs_nil)
    (svs_cons (sv_set (i := 2) (eo_of (ev_mod (ev_peek (i := 0) ev_int) (ev_var 1))) sc__law_take.nd)
    (svs_cons (sv_putAt (i := 0) (ev_fdiv gd hr (by decide) (ev_peek (i := 0) ev_int) (ev_var 1)) ev_int)
    (svs_one (sv_ret (eo_move 2)))))
abbrev N_law : List Str := ["_law_script", "_law_k", "_law_stream_here", "_law_above", "_law_turn", "_law_one"]
theorem sc_law : FnScope N_law ["_law_script"] (defScope s_law) := scK
abbrev N__law_refused : List Str := ["_law_deed", "e"]
theorem sc__law_refused : FnScope N__law_refused ["_law_deed"] (defScope s__law_refused) := scK
theorem tv_ref {ql : Str} {fl : Addr} {A0 : Around} {outer0 : List PySem.Env} {s0 : Shared} {H0 : Hp} {E0 : XK} {W : WX} {c tb : Addr} {k : Nat} {par : Arguments} {sc : Scope} {bd : Expr} {fE : M D} {sts : List Stmt} {p lp pos1 pos2 pos3 : Pos} (T : Txt K mg) (TB : TabB base mg c tb) (rm : Room (k + 2) (A0.deeper (envOfC ql (defScope s_law) s0.heap.objs.size fl (.ref c)))) (qt : Quiet P base (A0.deeper (envOfC ql (defScope s_law) s0.heap.objs.size fl (.ref c)))) (Ls : LamS (defScope s_law) sc)
    (nodef : defaultsOf par (cxOf (L2.CX P w) P w K mg base N_law ql (defScope s_law) fl (.ref c) A0 outer0 s0 H0 E0).env = ([], [])) (bnd : ∀ (q : Str) (cl : List (Str × Addr)) (pm cv ctv : Value), bindArgs (PySem.W.kla_fn "<lambda>" q par bd sc cl pm cv ctv) ⟨[], []⟩ = pure [])
    (hE : ∀ (f cc : Addr) (A : Around) (o : List PySem.Env) (z : Shared) (Hz : Hp) (E : XK), Quiet P base (A.deeper (lamEnv (cxOf (L2.CX P w) P w K mg base N_law ql (defScope s_law) fl (.ref c) A0 outer0 s0 H0 E0) sc z.heap.objs.size f cc)) → Room k (A.deeper (lamEnv (cxOf (L2.CX P w) P w K mg base N_law ql (defScope s_law) fl (.ref c) A0 outer0 s0 H0 E0) sc z.heap.objs.size f cc)) → EV (lamCx (cxOf (L2.CX P w) P w K mg base N_law ql (defScope s_law) fl (.ref c) A0 outer0 s0 H0 E0) A o z Hz E sc f cc) (fun cls d _ H => E cls d H) bd fE)
    (hw : ∀ whole, isTrue (.Call (.Name "_law_refused" p) [.Lambda par bd sc lp] [] pos1) (cxOf (L2.CX P w) P w K mg base N_law ql (defScope s_law) fl (.ref c) A0 outer0 s0 H0 E0).env whole = (do let v ← whole; standAt pos1; holding [v] (truthy v)) := by intro _; rfl) :
    TV (cxOf (L2.CX P w) P w K mg base N_law ql (defScope s_law) fl (.ref c) A0 outer0 s0 H0 E0) W (OkO tb (ql ++ ".<locals>." ++ "<lambda>")) (.If (.UnaryOp .Not (.Call (.Name "_law_refused" p) [.Lambda par bd sc lp] [] pos1) pos2) sts [] pos3) (mIfRef ["NoFraction"] decNF fE) := by
  refine tv_ifrefF (st := s__law_refused) (Ng := N__law_refused) (n := "e") (ex := "RestError") (tk := ["NoFraction"]) (kg := fun c => mRet (mOf (mAndV (mIsE c (["NoFraction"] : List Str)) (mIsE c (["NoFraction"] : List Str))))) T.f__law_refused rfl sc__law_refused rfl (Or.inl rfl) (fun _ _ _ _ _ _ us hl => match us, hl with | [_], _ => rfl) TB rfl rm ⟨qt.g, qt.s, qt.t⟩ Ls nodef bnd rfl rfl rfl rfl T.x_RestError rfl (by decide) (exa_cons T.m_NoFraction_RestError exa_nil) (fun c hc => ?_) (fun c hc => hc) (fun g cd z H1 c hc a oe pn hH => sves_one (sve_ret (eoe_of (eve_and (eve_is hH T.b_isinstance (isa_cons (isM_of T.x_NoFraction T.m_NoFraction_NoFraction T.m_NoFraction_NoFraction) isa_nil) hc) (eve_one (eve_is hH T.b_isinstance (isa_cons T.v_NoFraction_ValueError isa_nil) hc)))))) (fun c hc => ?_) hE (hw := hw)
  · rcases List.mem_cons.mp hc with rfl | hc
    · exact T.xc_NoFraction
    · nomatch hc
  · rcases List.mem_cons.mp hc with rfl | hc
    · exact ⟨_, rfl⟩
    · nomatch hc
theorem ok_law_at {f c tb : Addr} {oc kV doc pm ct : Value} {od an : Option Addr} {osl : Array (Option Value)} {n : Nat} (T : Txt K mg) (look : K.lookup f = some ⟨oc, od, .func (PySem.W.fnOf "law" "law" (defArgs s_law) (defBody s_law) (defScope s_law) .none kV doc pm an (.ref c) ct), osl⟩) (code : PySem.W.codeIn K (.ref c) "law" = true) (tB : TabB base mg c tb) (h : ∀ ns : List Int, fn_law [.scr ns] = .ok (.bl true) .ff .non) : FnG P w K mg base 38 f (PySem.W.fnOf "law" "law" (defArgs s_law) (defBody s_law) (defScope s_law) .none kV doc pm an (.ref c) ct) ["_law_script"] (spT K n tb) := by
  have g__law_stream := @ok__law_stream P w K mg base T
  have g__law_take := @ok__law_take P w K mg base T
  have g_fraction := @ok_fraction P w K mg base T
  have g_over := @ok_over P w K mg base T
  have g_times := @ok_times P w K mg base T
  refine law_ofT (N := N_law) (fb := fb_law) look code sc_law (by decide) (fun A outer s H E gd hr => ?_) h
  have tk : Takes (cxOf (L2.CX P w) P w K mg base N_law "law" (defScope s_law) f (.ref c) A outer s H E) (fun cls d _ H => E cls d H) := takes_of rfl rfl rfl rfl
  have po : PassesOwn (model P w) (A.deeper (envOfC "law" (defScope s_law) s.heap.objs.size f (.ref c))) (envOfC "law" (defScope s_law) s.heap.objs.size f (.ref c)) (cxOf (L2.CX P w) P w K mg base N_law "law" (defScope s_law) f (.ref c) A outer s H E).xe := passes_of rfl
  exact tvs_cons (tv_for po rfl (iv_range1 rfl T.b_range (ea_cons ev_int ea_nil)) (gv_name (i := 1) sc_law.nd) (tvs_cons (tv_of (sv_set (i := 2) (eo_fn g__law_stream gd hr tk (ex_v (ev_var 0) (ex_v (ev_var 1) ex_nil))) sc_law.nd))
    (tvs_cons (tv_of (sv_set (i := 3) (eo_of (ev_mul (ev_item (ev_of (eo_lst (ea_cons ev_int (ea_cons ev_int (ea_cons (ev_neg ev_int) ea_nil))))) (ev_of (eo_fn g__law_take gd hr tk (ex_s 2 (ex_v ev_int ex_nil))))) (ev_of (eo_fn g__law_take gd hr tk (ex_s 2 (ex_v (ev_pow ev_int ev_int) ex_nil)))))) sc_law.nd))
    (tvs_cons (tv_of (sv_for po rfl (iv_range1 rfl T.b_range (ea_cons (ev_of (eo_fn g__law_take gd hr tk (ex_s 2 (ex_v ev_int ex_nil)))) ea_nil)) (gv_name (i := 4) sc_law.nd) (svs_cons (sv_set (i := 3) (eo_of (ev_mul (ev_var 3) (ev_add ev_int (ev_of (eo_fn g__law_take gd hr tk (ex_s 2 (ex_v (ev_pow ev_int ev_int) ex_nil))))))) sc_law.nd)
    (svs_kill (is := [4]) svs_nil))))
    (tvs_cons (tv_of (sv_set (i := 5) (eo_fn g_fraction gd hr tk (ex_v (ev_var 3) (ex_v (ev_add ev_int (ev_of (eo_fn g__law_take gd hr tk (ex_s 2 (ex_v ev_int ex_nil))))) ex_nil))) sc_law.nd))
    (tvs_cons (tv_ref T tB hr gd (lamS_by (by decide +kernel)) rfl (fun _ _ _ _ _ => rfl) (fun f2 cc A2 o2 z2 H2 E2 gd hr => ev_of (eo_fn g_fraction gd hr (takes_of rfl rfl rfl rfl) (ex_v (ev_var 3) (ex_v ev_int ex_nil)))))
    (tvs_cons (tv_ref T tB hr gd (lamS_by (by decide +kernel)) rfl (fun _ _ _ _ _ => rfl) (fun f2 cc A2 o2 z2 H2 E2 gd hr => ev_of (eo_fn g_over gd hr (takes_of rfl rfl rfl rfl) (ex_v (ev_var 5) (ex_v (ev_tup (ea_cons ev_int (ea_cons ev_int ea_nil))) ex_nil)))))
    (tvs_cons (tv_ref T tB hr gd (lamS_by (by decide +kernel)) rfl (fun _ _ _ _ _ => rfl) (fun f2 cc A2 o2 z2 H2 E2 gd hr => ev_of (eo_fn g_over gd hr (takes_of rfl rfl rfl rfl) (ex_v (ev_var 5) (ex_v (ev_of (eo_fn g_times gd hr (takes_of rfl rfl rfl rfl) (ex_v (ev_tup (ea_cons ev_int (ea_cons ev_int ea_nil))) (ex_v (ev_var 5) ex_nil)))) ex_nil)))))
    (tvs_cons (tv_of (sv_if (et_w (ew_and (et_ne hr.units (ev_item (ev_var 5) ev_int) ev_int) (ew_and1 (et_ne hr.units (ev_of (eo_fn g_over gd hr tk (ex_v (ev_tup (ea_cons ev_int (ea_cons ev_int ea_nil))) (ex_v (ev_var 5) ex_nil)))) (ev_tup (ea_cons ev_int (ea_cons ev_int ea_nil))))))) (svs_one (sv_ret (eo_of ev_bl))) svs_nil))
    (tvs_kill (is := [1, 2, 3, 5]) tvs_nil))))))))))
    (tvs_one (tv_of (sv_ret (eo_of ev_bl))))
end Wk
end K02
namespace K02
open PySem PySem.Spec PyProof.Rows L2 Dt Dt.Hk LamX
namespace Wk
theorem all_mk {l : PySem.W.OpenLaw} {w : World} {K : PySem.W.Frag} {h : Heap} {mg : Str → Option Value} {fa : Addr} (cc : SaysC Hd.qc K) {cA tb : Addr} (X : K.In h) (G : h.Ns mainGlobals mg) (hfa : mg "law" = some (.ref fa)) (hcd : ∀ (o : Obj) (fd : FuncData), K.lookup fa = some o → o.data = .func fd → fd.code = .ref cA) :
    ∃ fd : FuncData, (∀ (s : Shared) (v : Value), BindsTo s fd ⟨[v], []⟩ [("_law_script", v)]) ∧ ∀ base : Heap, K.In base → base.Ns mainGlobals mg → TabB base mg cA tb → FnG l.prog w K mg base 38 fa fd ["_law_script"] (spT K 63 tb) := by
  have c := cc.s
  have T : Txt K mg := { f_common := Qs.fn X G c 0, f_fraction := Qs.fn X G c 1, f_times := Qs.fn X G c 2, f_over := Qs.fn X G c 3, f__law_stream := Qs.fn X G c 4, f__law_take := Qs.fn X G c 5, f__law_refused := Qs.fn X G c 6, f_law := Qs.fn X G c 7, b_ValueError := Qs.free X G c 0, b_abs := Qs.free X G c 1, b_isinstance := Qs.free X G c 2, b_len := Qs.free X G c 3, b_range := Qs.free X G c 4, x_NoFraction := Qs.exc X G c 0, x_RestError := Qs.exc X G c 1, xc_NoFraction := Qs.xc X G c 0, v_NoFraction_ValueError := isM_q (Tn := "ValueError") (Qs.iv X G c 0) (Qs.free X G c 0) rfl (by decide +kernel), m_NoFraction_NoFraction := Qs.em X G c 0, m_NoFraction_RestError := Qs.em X G c 1 }
  obtain ⟨f, fd, F, e⟩ := Qs.fn X G c 7 (x := "law") (st := s_law)
  have e := hfa.symm.trans e
  cases e
  have F2 := F
  obtain ⟨oc, od, kV, doc, pm, an, cdv, ct, osl, rfl, lk, hco⟩ := F2.ex
  have ecd : cdv = .ref cA := hcd _ _ lk rfl
  subst ecd
  refine ⟨PySem.W.fnOf "law" "law" (defArgs s_law) (defBody s_law) (defScope s_law) .none kV doc pm an (.ref cA) ct, fun s v => .of_eq rfl, fun base _ _ tB => ?_⟩
  exact ok_law_at T lk hco tB (fun ns => law_true (ns := ns))
end Wk
end K02
open PySem PySem.W PyProof.Rows
set_option maxHeartbeats 0 in
theorem PySem.Challenge.cw_restlines_k02_fractions_refused_holds : PySem.Challenge.rw_restlines_k02_fractions_refused.Holds := by
  refine K02.Hd.h0 fun said => ?_
  refine Dt.Pc.head_pcs (r := PySem.W.OpenLaw.row PySem.Challenge.rw_restlines_k02_fractions_refused) (q := K02.Hd.qv) (H := K02.Hd.qc.hookT) (ob := K02.Hd.ob) (loose := K02.Hd.names) (d := K02.Hd.dl) (kwd := []) K02.Hd.fin K02.Hd.ob_eq
    K02.Hd.h1 K02.Hd.h2 K02.Hd.run K02.Hd.l1 K02.Hd.l2 K02.Hd.l3 K02.Hd.h3 K02.Hd.h4 K02.Hd.h5 K02.Hd.h6 said K02.Hd.h8 K02.Hd.h9 K02.Hd.h11 ?_
  case _ =>
    refine Dt.Hk.walk_hT (l := PySem.Challenge.rw_restlines_k02_fractions_refused) (n := 63) (k := 38) (x := "_law_script") rfl (by decide +kernel) rfl (by decide) (by kernel_rfl) ⟨rfl, by decide, by decide⟩ (by kernel_rfl) ?F
    intro w K mg fa cA tb h c KX G hmg hcd
    rw [K02.Hd.h10] at hmg
    exact K02.Wk.all_mk (l := PySem.Challenge.rw_restlines_k02_fractions_refused) c KX G hmg hcd
