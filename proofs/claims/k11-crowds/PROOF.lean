import PyProof.Rows.All
import Wide.All
import OpenK.AllK
import Wide.FinOn
import HandS.ForMost
import HandS.ForExc
import HandS.Wide
import HandS.CallSlots
import HandS.IsInst
import HandS.Style
import HandS.TupAny
import HandS.EndBits
import HandS.RaiseMore
import HandS.Conv
import HandS.More
import PyProof.ReprRoads
import HandS.SortInts
import HandS.SortRule
import KE.KMinKey
import HandS.SortKw
import HandS.TryMany
import HandS.TupMul
import HandS.SortOrd
import KE.KDictSum
import HandS.DictTup
import KE.KDictWalk
import KE.KDictCopyH
import HandS.TupLen
import KE.SortData
import HandS.ExcIs
import HandS.Deep
import HandS.Head0
import HandS.Head1
import HandS.Head2
import HandS.HeadHook1
import PySem.Challenge.RW_restlines_k11_crowds
set_option Elab.async false
set_option linter.all false
set_option maxRecDepth 100000
set_option maxHeartbeats 4000000
namespace Goi
end Goi
namespace L2
end L2
namespace Dt
open PySem PySem.Spec PyProof.Rows L2
abbrev St := L2.St
inductive D where
  | non
  | bl (b : Bool)
  | int (i : Int)
  | str (x : Str)
  | lst (xs : List D)
  | tup (xs : List D)
  | scr (ns : List Int)
  | dic (ks : List Int) (vs : List D)
  /-- a dict whose keys are tuples of ints and texts -/
  | dct (ks : List (List L2.Key)) (vs : List D)
  /-- some object, by its address -/
  | obj (a : Addr)
  /-- a tuple of ints and texts that was made by the program, a key -/
  | key (ks : List L2.Key)
def kPy : L2.Key → PyData
  | .inl i => .int i
  | .inr x => .str x
mutual
def D.py : D → PyData
  | .non => .none
  | .bl b => .bool b
  | .int i => .int i
  | .str x => .str x
  | .lst xs => .list (D.pys xs)
  | .tup xs => .tuple (D.pys xs)
  | .scr ns => .list (ns.map PyData.int)
  | .dic _ _ => .dict []
  | .dct _ _ => .dict []
  | .obj _ => .dict []
  | .key ks => .tuple (ks.map kPy)
def D.pys : List D → List PyData
  | [] => []
  | x :: xs => D.py x :: D.pys xs
end
def Ex (H H' : Hp) : Prop := ∀ a o, H a = some o → H' a = some o
theorem Ex.refl (H : Hp) : Ex H H := fun _ _ h => h
theorem Ex.trans {H H1 H2 : Hp} (a : Ex H H1) (b : Ex H1 H2) : Ex H H2 := fun x o h => b x o (a x o h)
theorem Ex.new {H : Hp} {p : Addr} {o : HO} (h : H p = none) : Ex H (upd H p o) := fun a u e => by
  rw [upd_ne (ne_of_none e h)]
  exact e
theorem Ex.nn {H H' : Hp} {p : Addr} (e : Ex H H') (h : H' p = none) : H p = none := by
  cases h1 : H p with
  | none => rfl
  | some o => rw [e p o h1] at h; cases h
theorem Ex.both {B H : Hp} {p : Addr} {o : HO} (e : Ex B H) : Ex (upd B p o) (upd H p o) := fun a u h => by
  by_cases q : a = p
  · subst q; rw [upd_same] at h ⊢; exact h
  · rw [upd_ne q] at h ⊢; exact e a u h
theorem Ex.right {B H : Hp} {p : Addr} {o : HO} (e : Ex B H) (h : B p = none) : Ex B (upd H p o) := fun a u q => by
  rw [upd_ne (ne_of_none q h)]; exact e a u q
theorem upd_some {H : Hp} {a p : Addr} {o : HO} (h : H a ≠ none) : upd H p o a ≠ none := by
  by_cases q : a = p
  · subst q; rw [upd_same]; simp
  · rw [upd_ne q]; exact h
theorem Ex.rd {H H' : Hp} {a : Addr} {u : HO} (e : Ex H H') (h : Rd H a u) : Rd H' a u := by
  rcases h with h | ⟨o, h⟩
  · exact Or.inl (e a _ h)
  · exact Or.inr ⟨o, e a _ h⟩
theorem Ex.sl {K : PySem.W.Frag} {H H' : Hp} {a : Addr} {xs : List V} (e : Ex H H') (h : SqL K H a xs) : SqL K H' a xs := by
  rcases h with h | h
  · exact Or.inl (e.rd h)
  · exact Or.inr h
theorem Ex.st {K : PySem.W.Frag} {H H' : Hp} {a : Addr} {xs : List V} (e : Ex H H') (h : SqT K H a xs) : SqT K H' a xs := by
  rcases h with h | h
  · exact Or.inl (e.rd h)
  · exact Or.inr h
def dkt (ks : List (List L2.Key)) (xs : List V) : List (List L2.Key × V) := List.zipWith (fun k v => (k, v)) ks xs
def dkv (ks : List Int) (xs : List V) : List (L2.Key × V) := List.zipWith (fun k v => (Sum.inl k, v)) ks xs
mutual
inductive Fz (K : PySem.W.Frag) (B : Hp) : V → D → Prop
  | non : Fz K B .non .non
  | bl (b : Bool) : Fz K B (.bl b) (.bl b)
  | int (i : Int) : Fz K B (.int i) (.int i)
  | str (x : Str) : Fz K B (.str x) (.str x)
  | lst {a : Addr} {xs : List V} {ds : List D} : B a = some (.lst xs) → Fzs K B xs ds → Fz K B (.ref a) (.lst ds)
  | tup {a : Addr} {xs : List V} {ds : List D} : SqT K B a xs → Fzs K B xs ds → Fz K B (.ref a) (.tup ds)
  | scr {a : Addr} {ns : List Int} : SqL K B a (ns.map V.int) → Fz K B (.ref a) (.scr ns)
  | dic {a : Addr} {ks : List Int} {xs : List V} {ds : List D} : B a = some (.dK (dkv ks xs)) → ks.length = xs.length → Fzs K B xs ds → Fz K B (.ref a) (.dic ks ds)
  | dct {a : Addr} {ks : List (List L2.Key)} {xs : List V} {ds : List D} : Rd B a (.dT (dkt ks xs)) → ks.length = xs.length → Fzs K B xs ds → Fz K B (.ref a) (.dct ks ds)
  | obj (a : Addr) : Fz K B (.ref a) (.obj a)
  | key {a : Addr} {ks : List L2.Key} : B a = some (.tup (ks.map kV)) → Fz K B (.ref a) (.key ks)
inductive Fzs (K : PySem.W.Frag) (B : Hp) : List V → List D → Prop
  | nil : Fzs K B [] []
  | cons {v : V} {vs : List V} {d : D} {ds : List D} : Fz K B v d → Fzs K B vs ds → Fzs K B (v :: vs) (d :: ds)
end
section
variable {K : PySem.W.Frag} {B B' H : Hp}
mutual
theorem Fz.mono {v : V} {d : D} (e : Ex B B') : Fz K B v d → Fz K B' v d
  | .non => .non
  | .bl b => .bl b
  | .int i => .int i
  | .str x => .str x
  | .lst h hs => .lst (e _ _ h) (Fzs.mono e hs)
  | .tup h hs => .tup (e.st h) (Fzs.mono e hs)
  | .scr h => .scr (e.sl h)
  | .dic h l hs => .dic (e _ _ h) l (Fzs.mono e hs)
  | .dct h l hs => .dct (e.rd h) l (Fzs.mono e hs)
  | .obj a => .obj a
  | .key h => .key (e _ _ h)
theorem Fzs.mono {vs : List V} {ds : List D} (e : Ex B B') : Fzs K B vs ds → Fzs K B' vs ds
  | .nil => .nil
  | .cons h hs => .cons (Fz.mono e h) (Fzs.mono e hs)
end
theorem dp_ints : ∀ ns : List Int, DpAll K H (ns.map V.int) (ns.map PyData.int)
  | [] => .nil
  | n :: ns => .cons (.int n) (dp_ints ns)
theorem dp_keys : ∀ ks : List L2.Key, DpAll K H (ks.map kV) (ks.map kPy)
  | [] => .nil
  | .inl n :: ns => .cons (.int n) (dp_keys ns)
  | .inr n :: ns => .cons (.str n) (dp_keys ns)
mutual

def D.nd : D → Bool
  | .lst xs => D.nds xs
  | .tup xs => D.nds xs
  | .dic _ _ | .dct _ _ | .obj _ => false
  | .non | .bl _ | .int _ | .str _ | .scr _ | .key _ => true
def D.nds : List D → Bool
  | [] => true
  | x :: xs => D.nd x && D.nds xs
end
mutual
theorem D.nd_lay : ∀ {d : D}, d.py.canLay0 = true → d.nd = true
  | .non, _ => by simp [D.nd]
  | .bl _, _ => by simp [D.nd]
  | .int _, _ => by simp [D.nd]
  | .str _, _ => by simp [D.nd]
  | .scr _, _ => by simp [D.nd]
  | .lst xs, h => by
    simp only [D.py, PyData.canLay0] at h
    simp only [D.nd]; exact D.nds_lay h
  | .tup xs, h => by
    simp only [D.py, PyData.canLay0] at h
    simp only [D.nd]; exact D.nds_lay h
  | .dic _ _, h => by simp [D.py, PyData.canLay0] at h
  | .dct _ _, h => by simp [D.py, PyData.canLay0] at h
  | .obj _, h => by simp [D.py, PyData.canLay0] at h
  | .key _, _ => by simp [D.nd]
theorem D.nds_lay : ∀ {ds : List D}, PyData.canLayAll0 (D.pys ds) = true → D.nds ds = true
  | [], _ => by simp [D.nds]
  | x :: xs, h => by
    simp only [D.pys, PyData.canLayAll0, Bool.and_eq_true] at h
    simp only [D.nds, Bool.and_eq_true]
    exact ⟨D.nd_lay h.1, D.nds_lay h.2⟩
end
mutual
theorem Fz.dp {v : V} {d : D} (e : Ex B H) (n : d.nd = true) : Fz K B v d → Dp K H v d.py
  | .non => by simp only [D.py]; exact .non
  | .bl b => by simp only [D.py]; exact .bl b
  | .int i => by simp only [D.py]; exact .int i
  | .str x => by simp only [D.py]; exact .str x
  | .lst h hs => by simp only [D.py]; exact .lst (.inl (.inl (e _ _ h))) (Fzs.dp e (by simpa only [D.nd] using n) hs)
  | .tup h hs => by simp only [D.py]; exact .tup (e.st h) (Fzs.dp e (by simpa only [D.nd] using n) hs)
  | .scr h => by simp only [D.py]; exact .lst (e.sl h) (dp_ints _)
  | .dic _ _ _ => by simp [D.nd] at n
  | .dct _ _ _ => by simp [D.nd] at n
  | .obj _ => by simp [D.nd] at n
  | .key h => by simp only [D.py]; exact .tup (e.st (.inl (.inl h))) (dp_keys _)
theorem Fzs.dp {vs : List V} {ds : List D} (e : Ex B H) (n : D.nds ds = true) : Fzs K B vs ds → DpAll K H vs (D.pys ds)
  | .nil => by simp only [D.pys]; exact .nil
  | .cons h hs => by
    simp only [D.nds, Bool.and_eq_true] at n
    simp only [D.pys]
    exact .cons (Fz.dp e n.1 h) (Fzs.dp e n.2 hs)
end
theorem Fzs.len : ∀ {vs : List V} {ds : List D}, Fzs K B vs ds → vs.length = ds.length
  | _, _, .nil => rfl
  | _, _, .cons _ hs => by rw [List.length_cons, List.length_cons, Fzs.len hs]
theorem Fzs.get : ∀ {vs : List V} {ds : List D} {i : Nat} {d : D}, Fzs K B vs ds → ds[i]? = some d → ∃ v, vs[i]? = some v ∧ Fz K B v d
  | _, _, _, _, .nil, e => by simp at e
  | _, _, 0, _, .cons h _, e => by simp at e; subst e; exact ⟨_, rfl, h⟩
  | _, _, i + 1, d, .cons _ hs, e => by
    obtain ⟨v, h1, h2⟩ := Fzs.get (i := i) (d := d) hs (by simpa using e)
    exact ⟨v, by simpa using h1, h2⟩
theorem Fzs.getV : ∀ {vs : List V} {ds : List D} {i : Nat} {v : V}, Fzs K B vs ds → vs[i]? = some v → ∃ d, ds[i]? = some d ∧ Fz K B v d
  | _, _, _, _, .nil, e => by simp at e
  | _, _, 0, _, .cons h _, e => by simp at e; subst e; exact ⟨_, rfl, h⟩
  | _, _, i + 1, d, .cons _ hs, e => by
    obtain ⟨v, h1, h2⟩ := Fzs.getV (i := i) (v := d) hs (by simpa using e)
    exact ⟨v, by simpa using h1, h2⟩
theorem Fzs.append : ∀ {vs ws : List V} {ds es : List D}, Fzs K B vs ds → Fzs K B ws es → Fzs K B (vs ++ ws) (ds ++ es)
  | _, _, _, _, .nil, h => h
  | _, _, _, _, .cons a t, h => .cons a (Fzs.append t h)
theorem Fzs.set : ∀ {vs : List V} {ds : List D} {v : V} {d : D} (i : Nat), Fzs K B vs ds → Fz K B v d → Fzs K B (vs.set i v) (ds.set i d)
  | _, _, _, _, _, .nil, _ => .nil
  | _, _, _, _, 0, .cons _ t, h => .cons h t
  | _, _, _, _, i + 1, .cons a t, h => .cons a (Fzs.set i t h)
theorem Fzs.take : ∀ {vs : List V} {ds : List D} (n : Nat), Fzs K B vs ds → Fzs K B (vs.take n) (ds.take n)
  | _, _, 0, _ => .nil
  | _, _, _ + 1, .nil => .nil
  | _, _, n + 1, .cons a t => .cons a (Fzs.take n t)
theorem Fzs.drop : ∀ {vs : List V} {ds : List D} (n : Nat), Fzs K B vs ds → Fzs K B (vs.drop n) (ds.drop n)
  | _, _, 0, h => h
  | _, _, _ + 1, .nil => .nil
  | _, _, n + 1, .cons a t => Fzs.drop n t
theorem Fzs.ints : ∀ {vs : List V} {ns : List Int}, Fzs K B vs (ns.map D.int) → vs = ns.map V.int
  | _, [], .nil => rfl
  | _, n :: ns, .cons (.int _) t => by rw [List.map_cons, Fzs.ints t]
theorem Fzs.of_ints : ∀ (ns : List Int), Fzs K B (ns.map V.int) (ns.map D.int)
  | [] => .nil
  | n :: ns => .cons (.int n) (Fzs.of_ints ns)
end
mutual

inductive Mk where
  | z
  | l (m : Mk)
  | t (ms : Mks)
inductive Mks where
  | nil
  | cons (m : Mk) (r : Mks)
end
inductive Ob where
  | ff
  | tt
  | dp (m : Mk)
  | al
inductive Slot where
  | un
  | fz (d : D)
  | ow (d : D)
  | io (d : D)
  | dp (m : Mk) (d : D)
abbrev Env := List Slot
def Ct (H : Hp) (a : Addr) : Prop := ∃ o, H a = some o ∧ ∀ xs, o ≠ .tup xs
theorem Ct.ne {H : Hp} {a : Addr} (h : Ct H a) : H a ≠ none := by obtain ⟨o, e, _⟩ := h; rw [e]; simp
theorem Ct.of {H : Hp} {a : Addr} {o : HO} (e : H a = some o) (n : ∀ xs, o ≠ .tup xs) : Ct H a := ⟨o, e, n⟩
theorem Ct.to {H H' : Hp} {a : Addr} (h : Ct H a) (k : ∀ o, H a = some o → H' a = some o) : Ct H' a := by obtain ⟨o, e, n⟩ := h; exact ⟨o, k o e, n⟩
def Ow (K : PySem.W.Frag) (B H : Hp) (a : Addr) : D → Prop
  | .lst ds => B a = none ∧ ∃ vs, H a = some (.lst vs) ∧ Fzs K B vs ds
  | .dic ks ds => B a = none ∧ ∃ vs, H a = some (.dK (dkv ks vs)) ∧ ks.length = vs.length ∧ Fzs K B vs ds
  | .dct ks ds => B a = none ∧ ∃ vs, H a = some (.dT (dkt ks vs)) ∧ ks.length = vs.length ∧ Fzs K B vs ds
  | _ => False
theorem Ow.hid {K : PySem.W.Frag} {B H : Hp} {a : Addr} {d : D} (h : Ow K B H a d) : B a = none := by
  cases d with
  | lst ds => exact h.1
  | dic ks ds => exact h.1
  | dct ks ds => exact h.1
  | _ => exact h.elim
theorem Ow.there {K : PySem.W.Frag} {B H : Hp} {a : Addr} {d : D} (h : Ow K B H a d) : Ct H a := by
  cases d with
  | lst ds => obtain ⟨_, vs, e, _⟩ := h; exact .of e fun _ z => nomatch z
  | dic ks ds => obtain ⟨_, vs, e, _⟩ := h; exact .of e fun _ z => nomatch z
  | dct ks ds => obtain ⟨_, vs, e, _⟩ := h; exact .of e fun _ z => nomatch z
  | _ => exact h.elim
theorem Ow.keep {K : PySem.W.Frag} {B H B' H' : Hp} {a : Addr} {d : D} (h : Ow K B H a d) (e : Ex B B') (h1 : B' a = none) (h2 : ∀ o, H a = some o → H' a = some o) : Ow K B' H' a d := by
  cases d with
  | lst ds => obtain ⟨_, vs, q, f⟩ := h; exact ⟨h1, vs, h2 _ q, f.mono e⟩
  | dic ks ds => obtain ⟨_, vs, q, l, f⟩ := h; exact ⟨h1, vs, h2 _ q, l, f.mono e⟩
  | dct ks ds => obtain ⟨_, vs, q, l, f⟩ := h; exact ⟨h1, vs, h2 _ q, l, f.mono e⟩
  | _ => exact h.elim
theorem Ow.fz {K : PySem.W.Frag} {B H : Hp} {a : Addr} {d : D} (h : Ow K B H a d) : ∃ o, H a = some o ∧ Fz K (upd B a o) (.ref a) d := by
  cases d with
  | lst ds =>
    obtain ⟨n, vs, q, f⟩ := h
    exact ⟨_, q, .lst upd_same (f.mono (Ex.new n))⟩
  | dic ks ds =>
    obtain ⟨n, vs, q, l, f⟩ := h
    exact ⟨_, q, .dic upd_same l (f.mono (Ex.new n))⟩
  | dct ks ds =>
    obtain ⟨n, vs, q, l, f⟩ := h
    exact ⟨_, q, .dct (.inl upd_same) l (f.mono (Ex.new n))⟩
  | _ => exact h.elim
inductive Its (R : V → D → List Addr → Prop) : List V → List D → List Addr → Prop
  | nil : Its R [] [] []
  | cons {v : V} {vs : List V} {d : D} {ds : List D} {S T : List Addr} : R v d S → Its R vs ds T → Its R (v :: vs) (d :: ds) (S ++ T)
mutual
def Tr (K : PySem.W.Frag) (B H : Hp) : Mk → V → D → List Addr → Prop
  | .z, v, d, S => Fz K B v d ∧ S = []
  | .l m, v, d, S => ∃ a vs ds T, v = .ref a ∧ d = .lst ds ∧ B a = none ∧ H a = some (.lst vs) ∧ Its (Tr K B H m) vs ds T ∧ S = a :: T
  | .t ms, v, d, S => ∃ a vs ds, v = .ref a ∧ d = .tup ds ∧ B a = some (.tup vs) ∧ TrT K B H ms vs ds S
def TrT (K : PySem.W.Frag) (B H : Hp) : Mks → List V → List D → List Addr → Prop
  | .nil, vs, ds, S => vs = [] ∧ ds = [] ∧ S = []
  | .cons m r, vs, ds, S => ∃ v vs' d ds' S1 S2, vs = v :: vs' ∧ ds = d :: ds' ∧ Tr K B H m v d S1 ∧ TrT K B H r vs' ds' S2 ∧ S = S1 ++ S2
end
theorem Its.imp {R R' : V → D → List Addr → Prop} {vs : List V} {ds : List D} {S : List Addr} (h : Its R vs ds S) : (∀ v d T, R v d T → (∀ a ∈ T, a ∈ S) → R' v d T) → Its R' vs ds S := by
  induction h with
  | nil => exact fun _ => .nil
  | cons a t ih => exact fun k => .cons (k _ _ _ a fun x hx => List.mem_append_left _ hx) (ih fun v d T r q => k v d T r fun x hx => List.mem_append_right _ (q x hx))
theorem Its.all {R : V → D → List Addr → Prop} {p : Addr → Prop} {vs : List V} {ds : List D} {S : List Addr} (h : Its R vs ds S) (k : ∀ v d T, R v d T → ∀ a ∈ T, p a) : ∀ a ∈ S, p a := by
  induction h with
  | nil => exact fun a q => nomatch q
  | cons a t ih => exact fun x q => (List.mem_append.mp q).elim (k _ _ _ a x) (ih x)
theorem Its.det {R R' : V → D → List Addr → Prop} {vs : List V} {ds ds' : List D} {S S' : List Addr} (h : Its R vs ds S) (h' : Its R' vs ds' S') (k : ∀ v d d' T T', R v d T → R' v d' T' → T = T') : S = S' := by
  induction h generalizing ds' S' with
  | nil => cases h'; rfl
  | cons a t ih =>
    cases h' with
    | cons a' t' => rw [k _ _ _ _ _ a a', ih t']
theorem Its.len {R : V → D → List Addr → Prop} {vs : List V} {ds : List D} {S : List Addr} (h : Its R vs ds S) : vs.length = ds.length := by
  induction h with
  | nil => rfl
  | cons a t ih => rw [List.length_cons, List.length_cons, ih]
section
variable {K : PySem.W.Frag} {B B' H H' : Hp}
mutual
theorem Tr.keep : ∀ {m : Mk} {v : V} {d : D} {S : List Addr}, Tr K B H m v d S → Ex B B' → (∀ a ∈ S, B' a = none) → (∀ a ∈ S, ∀ o, H a = some o → H' a = some o) → Tr K B' H' m v d S
  | .z, _, _, _, h, e, _, _ => by
    unfold Tr at h ⊢
    exact ⟨h.1.mono e, h.2⟩
  | .l m, _, _, _, h, e, h1, h2 => by
    unfold Tr at h ⊢
    obtain ⟨a, vs, ds, T, rfl, rfl, b, q, i, rfl⟩ := h
    exact ⟨a, vs, ds, T, rfl, rfl, h1 a (by simp), h2 a (by simp) _ q, i.imp fun v d T' r s => Tr.keep (m := m) r e (fun x hx => h1 x (List.mem_cons_of_mem _ (s x hx))) (fun x hx => h2 x (List.mem_cons_of_mem _ (s x hx))), rfl⟩
  | .t ms, _, _, _, h, e, h1, h2 => by
    unfold Tr at h ⊢
    obtain ⟨a, vs, ds, rfl, rfl, b, i⟩ := h
    exact ⟨a, vs, ds, rfl, rfl, e _ _ b, TrT.keep (ms := ms) i e h1 h2⟩
theorem TrT.keep : ∀ {ms : Mks} {vs : List V} {ds : List D} {S : List Addr}, TrT K B H ms vs ds S → Ex B B' → (∀ a ∈ S, B' a = none) → (∀ a ∈ S, ∀ o, H a = some o → H' a = some o) → TrT K B' H' ms vs ds S
  | .nil, _, _, _, h, _, _, _ => by
    unfold TrT at h ⊢
    exact h
  | .cons m r, _, _, _, h, e, h1, h2 => by
    unfold TrT at h ⊢
    obtain ⟨v, vs, d, ds, S1, S2, rfl, rfl, t1, t2, rfl⟩ := h
    exact ⟨v, vs, d, ds, S1, S2, rfl, rfl, Tr.keep (m := m) t1 e (fun x hx => h1 x (List.mem_append_left _ hx)) (fun x hx => h2 x (List.mem_append_left _ hx)), TrT.keep (ms := r) t2 e (fun x hx => h1 x (List.mem_append_right _ hx)) (fun x hx => h2 x (List.mem_append_right _ hx)), rfl⟩
end
mutual
theorem Tr.det : ∀ {m : Mk} {v : V} {d d' : D} {S S' : List Addr}, Tr K B H m v d S → Tr K B H m v d' S' → S = S'
  | .z, _, _, _, _, _, h, h' => by
    unfold Tr at h h'
    rw [h.2, h'.2]
  | .l m, _, _, _, _, _, h, h' => by
    unfold Tr at h h'
    obtain ⟨a, vs, ds, T, rfl, rfl, b, q, i, rfl⟩ := h
    obtain ⟨a', vs', ds', T', e, rfl, b', q', i', rfl⟩ := h'
    injection e with e; subst e
    rw [q] at q'; injection q' with q'; injection q' with q'; subst q'
    rw [i.det i' fun v d d' T T' r r' => Tr.det (m := m) r r']
  | .t ms, _, _, _, _, _, h, h' => by
    unfold Tr at h h'
    obtain ⟨a, vs, ds, rfl, rfl, b, i⟩ := h
    obtain ⟨a', vs', ds', e, rfl, b', i'⟩ := h'
    injection e with e; subst e
    rw [b] at b'; injection b' with b'; injection b' with b'; subst b'
    rw [TrT.det (ms := ms) i i']
theorem TrT.det : ∀ {ms : Mks} {vs : List V} {ds ds' : List D} {S S' : List Addr}, TrT K B H ms vs ds S → TrT K B H ms vs ds' S' → S = S'
  | .nil, _, _, _, _, _, h, h' => by
    unfold TrT at h h'
    rw [h.2.2, h'.2.2]
  | .cons m r, _, _, _, _, _, h, h' => by
    unfold TrT at h h'
    obtain ⟨v, vs, d, ds, S1, S2, rfl, rfl, t1, t2, rfl⟩ := h
    obtain ⟨v', vs', d', ds', S1', S2', e, rfl, t1', t2', rfl⟩ := h'
    injection e with e1 e2; subst e1; subst e2
    rw [Tr.det (m := m) t1 t1', TrT.det (ms := r) t2 t2']
end
mutual
theorem Tr.hid : ∀ {m : Mk} {v : V} {d : D} {S : List Addr}, Tr K B H m v d S → ∀ a ∈ S, B a = none ∧ Ct H a
  | .z, _, _, _, h => by
    unfold Tr at h
    rw [h.2]; exact fun a q => nomatch q
  | .l m, _, _, _, h => by
    unfold Tr at h
    obtain ⟨a, vs, ds, T, rfl, rfl, b, q, i, rfl⟩ := h
    intro x hx
    rcases List.mem_cons.mp hx with rfl | hx
    · exact ⟨b, .of q fun _ z => nomatch z⟩
    · exact i.all (fun v d T r => Tr.hid (m := m) r) x hx
  | .t ms, _, _, _, h => by
    unfold Tr at h
    obtain ⟨a, vs, ds, rfl, rfl, b, i⟩ := h
    exact TrT.hid (ms := ms) i
theorem TrT.hid : ∀ {ms : Mks} {vs : List V} {ds : List D} {S : List Addr}, TrT K B H ms vs ds S → ∀ a ∈ S, B a = none ∧ Ct H a
  | .nil, _, _, _, h => by
    unfold TrT at h
    rw [h.2.2]; exact fun a q => nomatch q
  | .cons m r, _, _, _, h => by
    unfold TrT at h
    obtain ⟨v, vs, d, ds, S1, S2, rfl, rfl, t1, t2, rfl⟩ := h
    exact fun x hx => (List.mem_append.mp hx).elim (Tr.hid (m := m) t1 x) (TrT.hid (ms := r) t2 x)
end
def frzB (B H : Hp) (S : List Addr) : Hp := fun a => if a ∈ S then H a else B a
theorem frzB_in {S : List Addr} {a : Addr} (h : a ∈ S) : frzB B H S a = H a := if_pos h
theorem frzB_out {S : List Addr} {a : Addr} (h : a ∉ S) : frzB B H S a = B a := if_neg h
theorem frzB_ex {S : List Addr} (ex : Ex B H) : Ex B (frzB B H S) := fun a o e => by
  by_cases h : a ∈ S
  · rw [frzB_in h]; exact ex a o e
  · rw [frzB_out h]; exact e
theorem frzB_up {S : List Addr} (ex : Ex B H) : Ex (frzB B H S) H := fun a o e => by
  by_cases h : a ∈ S
  · rw [frzB_in h] at e; exact e
  · rw [frzB_out h] at e; exact ex a o e
theorem Its.fzs {m : Mk} {T : List Addr} {vs : List V} {ds : List D} {S : List Addr} (k : ∀ v d S, Tr K B H m v d S → (∀ a ∈ S, a ∈ T) → Fz K (frzB B H T) v d) (h : Its (Tr K B H m) vs ds S) : (∀ a ∈ S, a ∈ T) → Fzs K (frzB B H T) vs ds := by
  induction h with
  | nil => exact fun _ => .nil
  | cons a t ih => exact fun hs => .cons (k _ _ _ a fun x hx => hs x (List.mem_append_left _ hx)) (ih fun x hx => hs x (List.mem_append_right _ hx))
mutual
theorem Tr.fz (ex : Ex B H) {T : List Addr} : ∀ {m : Mk} {v : V} {d : D} {S : List Addr}, Tr K B H m v d S → (∀ a ∈ S, a ∈ T) → Fz K (frzB B H T) v d
  | .z, _, _, _, h, _ => by
    unfold Tr at h
    exact h.1.mono (frzB_ex ex)
  | .l m, _, _, _, h, s => by
    unfold Tr at h
    obtain ⟨a, vs, ds, S, rfl, rfl, b, q, i, rfl⟩ := h
    exact .lst (by rw [frzB_in (s a (by simp))]; exact q) (i.fzs (fun v d S r => Tr.fz ex (m := m) r) fun x hx => s x (List.mem_cons_of_mem _ hx))
  | .t ms, _, _, _, h, s => by
    unfold Tr at h
    obtain ⟨a, vs, ds, rfl, rfl, b, i⟩ := h
    exact .tup (.inl (.inl (frzB_ex ex _ _ b))) (TrT.fz ex (ms := ms) i s)
theorem TrT.fz (ex : Ex B H) {T : List Addr} : ∀ {ms : Mks} {vs : List V} {ds : List D} {S : List Addr}, TrT K B H ms vs ds S → (∀ a ∈ S, a ∈ T) → Fzs K (frzB B H T) vs ds
  | .nil, _, _, _, h, _ => by
    unfold TrT at h
    obtain ⟨rfl, rfl, _⟩ := h
    exact .nil
  | .cons m r, _, _, _, h, s => by
    unfold TrT at h
    obtain ⟨v, vs, d, ds, S1, S2, rfl, rfl, t1, t2, rfl⟩ := h
    exact .cons (Tr.fz ex (m := m) t1 fun x hx => s x (List.mem_append_left _ hx)) (TrT.fz ex (ms := r) t2 fun x hx => s x (List.mem_append_right _ hx))
end
end
structure Fr where
  B0 : Hp
  H0 : Hp
  A : Addr → Prop
  P : List (Option Addr)
def owned : Slot → Bool
  | .ow _ => true
  | .io _ => true
  | .dp _ _ => true
  | _ => false
def flat : Slot → Bool
  | .ow _ => true
  | .io _ => true
  | _ => false
theorem flat_owned {s : Slot} (h : flat s = true) : owned s = true := by cases s <;> first | rfl | cases h
def Slot.dat : Slot → D
  | .un => .non
  | .fz d => d
  | .ow d => d
  | .io d => d
  | .dp _ d => d
def Ft (K : PySem.W.Frag) (B H : Hp) (v : V) : Slot → List Addr → Prop
  | .ow d, S => ∃ a, v = .ref a ∧ Ow K B H a d ∧ S = [a]
  | .io d, S => ∃ a, v = .ref a ∧ Ow K B H a d ∧ S = [a]
  | .dp m d, S => Tr K B H m v d S ∧ S.Nodup
  | .un, _ => False
  | .fz _, _ => False
section
variable {K : PySem.W.Frag} {B B' H H' : Hp} {v : V} {s : Slot} {S T : List Addr}
theorem Ft.owned (h : Ft K B H v s S) : owned s = true := by cases s <;> first | rfl | exact h.elim
theorem Ft.hid (h : Ft K B H v s S) : ∀ a ∈ S, B a = none ∧ Ct H a := by
  cases s with
  | un => exact h.elim
  | fz _ => exact h.elim
  | ow d => obtain ⟨a, rfl, w, rfl⟩ := h; intro x hx; rw [List.mem_singleton.mp hx]; exact ⟨w.hid, w.there⟩
  | io d => obtain ⟨a, rfl, w, rfl⟩ := h; intro x hx; rw [List.mem_singleton.mp hx]; exact ⟨w.hid, w.there⟩
  | dp m d => exact h.1.hid
theorem Ft.keep (h : Ft K B H v s S) (e : Ex B B') (h1 : ∀ a ∈ S, B' a = none) (h2 : ∀ a ∈ S, ∀ o, H a = some o → H' a = some o) : Ft K B' H' v s S := by
  cases s with
  | un => exact h.elim
  | fz _ => exact h.elim
  | ow d => obtain ⟨a, rfl, w, rfl⟩ := h; exact ⟨a, rfl, w.keep e (h1 a (by simp)) (h2 a (by simp)), rfl⟩
  | io d => obtain ⟨a, rfl, w, rfl⟩ := h; exact ⟨a, rfl, w.keep e (h1 a (by simp)) (h2 a (by simp)), rfl⟩
  | dp m d => exact ⟨h.1.keep e h1 h2, h.2⟩
theorem Ft.det (h : Ft K B H v s S) (h' : Ft K B H v s T) : S = T := by
  cases s with
  | un => exact h.elim
  | fz _ => exact h.elim
  | ow d => obtain ⟨a, rfl, w, rfl⟩ := h; obtain ⟨a', e, w', rfl⟩ := h'; injection e with e; rw [e]
  | io d => obtain ⟨a, rfl, w, rfl⟩ := h; obtain ⟨a', e, w', rfl⟩ := h'; injection e with e; rw [e]
  | dp m d => exact h.1.det h'.1
theorem Ft.one {a : Addr} (h : Ft K B H (.ref a) s S) (f : flat s = true) : Ow K B H a s.dat ∧ S = [a] := by
  cases s with
  | ow d => obtain ⟨a', e, w, rfl⟩ := h; injection e with e; subst e; exact ⟨w, rfl⟩
  | io d => obtain ⟨a', e, w, rfl⟩ := h; injection e with e; subst e; exact ⟨w, rfl⟩
  | _ => cases f
theorem Ft.mk {a : Addr} (w : Ow K B H a s.dat) (f : flat s = true) : Ft K B H (.ref a) s [a] := by
  cases s with
  | ow d => exact ⟨a, rfl, w, rfl⟩
  | io d => exact ⟨a, rfl, w, rfl⟩
  | _ => cases f
end
def OwS (K : PySem.W.Frag) (B H : Hp) (ρ : Env) (σ : St) (a : Addr) : Prop := ∃ (i : Nat) (s : Slot) (v : V) (S : List Addr), ρ[i]? = some s ∧ σ[i]? = some (some v) ∧ Ft K B H v s S ∧ a ∈ S
structure Lv (K : PySem.W.Frag) (F : Fr) (ρ : Env) (σ : St) (B H : Hp) : Prop where
  ex : Ex B H
  kept : ∀ a o, F.H0 a = some o → ¬ F.A a → H a = some o
  there : ∀ a, F.H0 a ≠ none → H a ≠ none
  exB : Ex F.B0 B
  hid : ∀ a, F.B0 a = none → Ct F.H0 a → ¬ F.A a → B a = none
  fz : ∀ (i : Nat) (d : D), ρ[i]? = some (Slot.fz d) → ∃ v, σ[i]? = some (some v) ∧ Fz K B v d
  own0 : ∀ (i : Nat) (s : Slot), ρ[i]? = some s → owned s = true → ∃ v S, σ[i]? = some (some v) ∧ Ft K B H v s S ∧ ∀ a ∈ S, F.A a ∨ F.H0 a = none
  io : ∀ (i : Nat) (d : D), ρ[i]? = some (Slot.io d) → ∃ a, F.P[i]? = some (some a) ∧ σ[i]? = some (some (V.ref a))
  ne0 : ∀ (i j : Nat) (s t : Slot) (v w : V) (S T : List Addr) (a : Addr), ρ[i]? = some s → ρ[j]? = some t → σ[i]? = some (some v) → σ[j]? = some (some w) → Ft K B H v s S → Ft K B H w t T → a ∈ S → a ∈ T → i = j
  len : ρ.length = σ.length
section
variable {K : PySem.W.Frag} {F : Fr} {ρ : Env} {σ : St} {B H B' H' : Hp} {t : Slot}
theorem Lv.ow (L : Lv K F ρ σ B H) (i : Nat) (s : Slot) (e : ρ[i]? = some s) (f : flat s = true) : ∃ a, σ[i]? = some (some (V.ref a)) ∧ Ow K B H a s.dat ∧ (F.A a ∨ F.H0 a = none) := by
  obtain ⟨v, S, q, w, g⟩ := L.own0 i s e (flat_owned f)
  have hv : ∃ a, v = .ref a := by
    cases s with
    | ow d => obtain ⟨a, h, _⟩ := w; exact ⟨a, h⟩
    | io d => obtain ⟨a, h, _⟩ := w; exact ⟨a, h⟩
    | _ => cases f
  obtain ⟨a, rfl⟩ := hv
  obtain ⟨w1, rfl⟩ := w.one f
  exact ⟨a, q, w1, g a (by simp)⟩
theorem OwS.mk {i : Nat} {s : Slot} {a : Addr} (e : ρ[i]? = some s) (f : flat s = true) (q : σ[i]? = some (some (V.ref a))) (w : Ow K B H a s.dat) : OwS K B H ρ σ a := ⟨i, s, _, [a], e, q, .mk w f, by simp⟩
theorem Lv.hidOw (L : Lv K F ρ σ B H) {a : Addr} (h : OwS K B H ρ σ a) : B a = none ∧ Ct H a := by
  obtain ⟨i, s, v, S, e, q, w, m⟩ := h
  exact w.hid a m
theorem Lv.ofOw (L : Lv K F ρ σ B H) {a : Addr} (h : OwS K B H ρ σ a) : F.A a ∨ F.H0 a = none := by
  obtain ⟨i, s, v, S, e, q, w, m⟩ := h
  obtain ⟨v', S', q', w', g⟩ := L.own0 i s e w.owned
  rw [q] at q'; injection q' with q'; injection q' with q'; subst q'
  rw [w.det w'] at m
  exact g a m
theorem Lv.move (L : Lv K F ρ σ B H) (ex : Ex B' H') (eB : Ex B B') (k : ∀ a, OwS K B H ρ σ a → B' a = none ∧ ∀ o, H a = some o → H' a = some o)
    (kept : ∀ a o, F.H0 a = some o → ¬ F.A a → H' a = some o) (there : ∀ a, F.H0 a ≠ none → H' a ≠ none) (hid : ∀ a, F.B0 a = none → Ct F.H0 a → ¬ F.A a → B' a = none) : Lv K F ρ σ B' H' := by
  have kp : ∀ {i : Nat} {s : Slot} {v : V} {S : List Addr}, ρ[i]? = some s → σ[i]? = some (some v) → Ft K B H v s S → Ft K B' H' v s S := fun {i s v S} e q w =>
    w.keep eB (fun a m => (k a ⟨i, s, v, S, e, q, w, m⟩).1) (fun a m => (k a ⟨i, s, v, S, e, q, w, m⟩).2)
  refine ⟨ex, kept, there, L.exB.trans eB, hid, fun i d e => ?_, fun i s e w => ?_, L.io, fun i j s t v w S T a e1 e2 q1 q2 f1 f2 m1 m2 => ?_, L.len⟩
  · obtain ⟨v, e1, f⟩ := L.fz i d e
    exact ⟨v, e1, f.mono eB⟩
  · obtain ⟨v, S, q, f, g⟩ := L.own0 i s e w
    exact ⟨v, S, q, kp e q f, g⟩
  · obtain ⟨v', S', q1', f1', _⟩ := L.own0 i s e1 f1.owned
    obtain ⟨w', T', q2', f2', _⟩ := L.own0 j t e2 f2.owned
    rw [q1] at q1'; injection q1' with q1'; injection q1' with q1'; subst q1'
    rw [q2] at q2'; injection q2' with q2'; injection q2' with q2'; subst q2'
    rw [f1.det (kp e1 q1 f1')] at m1
    rw [f2.det (kp e2 q2 f2')] at m2
    exact L.ne0 i j s t v w S' T' a e1 e2 q1 q2 f1' f2' m1 m2
theorem Lv.few (L : Lv K F ρ σ B H) {ρ' : Env} {σ' : St} (len : ρ'.length = σ'.length) (fz : ∀ (i : Nat) (d : D), ρ'[i]? = some (Slot.fz d) → ∃ v, σ'[i]? = some (some v) ∧ Fz K B v d)
    (ow : ∀ (i : Nat) (s : Slot), ρ'[i]? = some s → owned s = true → ρ[i]? = some s ∧ σ'[i]? = σ[i]?) : Lv K F ρ' σ' B H := by
  refine ⟨L.ex, L.kept, L.there, L.exB, L.hid, fz, fun i s e w => ?_, fun i d e => ?_, fun i j s t v w S T a e1 e2 q1 q2 f1 f2 m1 m2 => ?_, len⟩
  · obtain ⟨h1, h2⟩ := ow i s e w
    rw [h2]; exact L.own0 i s h1 w
  · obtain ⟨h1, h2⟩ := ow i _ e rfl
    rw [h2]; exact L.io i d h1
  · obtain ⟨h1, h2⟩ := ow i s e1 f1.owned
    obtain ⟨h3, h4⟩ := ow j t e2 f2.owned
    exact L.ne0 i j s t v w S T a h1 h3 (h2 ▸ q1) (h4 ▸ q2) f1 f2 m1 m2
theorem Lv.alloc (L : Lv K F ρ σ B H) {p : Addr} {o : HO} (h : H p = none) : Lv K F ρ σ (upd B p o) (upd H p o) := by
  have nB : B p = none := L.ex.nn h
  refine L.move L.ex.both (Ex.new nB) (fun a w => ?_) (fun a u e n => ?_) (fun a e => upd_some (L.there a e)) (fun a e n m => ?_)
  · have nap : a ≠ p := fun z => (L.hidOw w).2.ne (z ▸ h)
    exact ⟨by rw [upd_ne nap]; exact (L.hidOw w).1, fun u q => by rw [upd_ne nap]; exact q⟩
  · have := L.kept a u e n
    rw [upd_ne (ne_of_none this h)]; exact this
  · have := L.hid a e n m
    by_cases q : a = p
    · subst q
      cases z : F.H0 a with
      | none => exact absurd z n.ne
      | some u => rw [L.kept a u z m] at h; cases h
    · rw [upd_ne q]; exact this
theorem Lv.allocO (L : Lv K F ρ σ B H) {p : Addr} {o : HO} (h : H p = none) : Lv K F ρ σ B (upd H p o) := by
  have nB : B p = none := L.ex.nn h
  refine L.move (L.ex.right nB) (Ex.refl _) (fun a w => ?_) (fun a u e n => ?_) (fun a e => upd_some (L.there a e)) L.hid
  · have nap : a ≠ p := fun z => (L.hidOw w).2.ne (z ▸ h)
    exact ⟨(L.hidOw w).1, fun u q => by rw [upd_ne nap]; exact q⟩
  · have := L.kept a u e n
    rw [upd_ne (ne_of_none this h)]; exact this
theorem Lv.freezeS (L : Lv K F ρ σ B H) {S : List Addr} (g : ∀ a ∈ S, F.A a ∨ F.H0 a = none) (no : ∀ a ∈ S, ¬ OwS K B H ρ σ a) : Lv K F ρ σ (frzB B H S) H := by
  refine L.move (frzB_up L.ex) (frzB_ex L.ex) (fun a w => ?_) L.kept L.there (fun a e m k => ?_)
  · exact ⟨by rw [frzB_out fun z => no a z w]; exact (L.hidOw w).1, fun _ q => q⟩
  · rw [frzB_out fun z => (g a z).elim k m.ne]; exact L.hid a e m k
theorem Lv.freeze (L : Lv K F ρ σ B H) {p : Addr} {o : HO} (h : H p = some o) (n : B p = none) (g : F.A p ∨ F.H0 p = none) (no : ¬ OwS K B H ρ σ p) : Lv K F ρ σ (upd B p o) H := by
  have e : frzB B H [p] = upd B p o := by
    funext a
    by_cases z : a = p
    · subst z; rw [frzB_in (by simp), upd_same, h]
    · rw [frzB_out (by simpa using z), upd_ne z]
  rw [← e]
  exact L.freezeS (by simpa using g) (by simpa using no)
theorem Lv.freezeT (L : Lv K F ρ σ B H) {p : Addr} {xs : List V} (h : H p = some (.tup xs)) (n : B p = none) : Lv K F ρ σ (upd B p (.tup xs)) H := by
  refine L.move (fun a o e => ?_) (Ex.new n) (fun a w => ?_) L.kept L.there (fun a e m k => ?_)
  · by_cases z : a = p
    · subst z; rw [upd_same] at e; injection e with e; subst e; exact h
    · rw [upd_ne z] at e; exact L.ex a o e
  · have nap : a ≠ p := fun z => by
      subst z
      obtain ⟨o, e, no⟩ := (L.hidOw w).2
      rw [h] at e; injection e with e; exact no xs e.symm
    exact ⟨by rw [upd_ne nap]; exact (L.hidOw w).1, fun _ q => q⟩
  · have nap : a ≠ p := fun z => by
      subst z
      obtain ⟨o, e, no⟩ := m
      have := L.kept a o e k
      rw [h] at this; injection this with this; exact no xs this.symm
    rw [upd_ne nap]; exact L.hid a e m k
theorem get_set {ρ : Env} {i j : Nat} {t s : Slot} (e : (ρ.set i t)[j]? = some s) : (j = i ∧ s = t ∧ i < ρ.length) ∨ (j ≠ i ∧ ρ[j]? = some s) := by
  by_cases h : i = j
  · subst h
    by_cases l : i < ρ.length
    · rw [List.getElem?_set_self l] at e
      injection e with e; exact .inl ⟨rfl, e.symm, l⟩
    · rw [List.getElem?_eq_none (by rw [List.length_set]; omega)] at e; cases e
  · rw [List.getElem?_set_ne h] at e
    exact .inr ⟨fun z => h z.symm, e⟩
theorem Lv.slot (L : Lv K F ρ σ B H) {i : Nat} {t : Slot} (hn : owned t = false) (hf : ∀ d, t = .fz d → i < ρ.length → ∃ v, σ[i]? = some (some v) ∧ Fz K B v d) : Lv K F (ρ.set i t) σ B H := by
  refine L.few (by rw [List.length_set]; exact L.len) (fun j d e => ?_) (fun j s e w => ?_)
  · rcases get_set e with ⟨rfl, z, l⟩ | ⟨_, e⟩
    · exact hf d z.symm l
    · exact L.fz j d e
  · rcases get_set e with ⟨rfl, z, l⟩ | ⟨_, e⟩
    · rw [z, hn] at w; cases w
    · exact ⟨e, rfl⟩
theorem OwS.un {i : Nat} {a : Addr} (h : OwS K B H (ρ.set i .un) σ a) : ∃ (j : Nat) (s : Slot) (v : V) (S : List Addr), j ≠ i ∧ ρ[j]? = some s ∧ σ[j]? = some (some v) ∧ Ft K B H v s S ∧ a ∈ S := by
  obtain ⟨j, s, v, S, e, q, f, m⟩ := h
  rcases get_set e with ⟨rfl, z, l⟩ | ⟨n, e⟩
  · rw [z] at f; exact f.elim
  · exact ⟨j, s, v, S, n, e, q, f, m⟩
theorem Lv.take (L : Lv K F ρ σ B H) {i : Nat} {s : Slot} (e : ρ[i]? = some s) (w : owned s = true) : ∃ v S, σ[i]? = some (some v) ∧ Ft K B H v s S ∧ (∀ a ∈ S, F.A a ∨ F.H0 a = none) ∧ (∀ a ∈ S, ¬ OwS K B H (ρ.set i .un) σ a) ∧ Lv K F (ρ.set i .un) σ B H := by
  obtain ⟨v, S, q, f, g⟩ := L.own0 i s e w
  refine ⟨v, S, q, f, g, fun a m h => ?_, L.slot rfl (fun d z => nomatch z)⟩
  obtain ⟨j, s', v', S', n, e', q', f', m'⟩ := h.un
  exact n (L.ne0 j i s' s v' v S' S a e' e q' q f' f m' m)
theorem Lv.frz0 (L : Lv K F ρ σ B H) {i : Nat} {s : Slot} (e : ρ[i]? = some s) (w : owned s = true) : ∃ B' v, Ex B B' ∧ σ[i]? = some (some v) ∧ Fz K B' v s.dat ∧ Lv K F (ρ.set i (.fz s.dat)) σ B' H := by
  obtain ⟨v, S, q, f, g, no, L1⟩ := L.take e w
  have l : i < ρ.length := (List.getElem?_eq_some_iff.mp e).1
  have L2 := L1.freezeS g no
  have h2 : Fz K (frzB B H S) v s.dat := by
    have flt : ∀ {a : Addr} {d : D}, v = .ref a → Ow K B H a d → S = [a] → Fz K (frzB B H S) v d := by
      intro a d e1 w1 e2
      subst e1; subst e2
      obtain ⟨o, h1, h2⟩ := w1.fz
      refine h2.mono fun b u hb => ?_
      by_cases z : b = a
      · subst z; rw [upd_same] at hb; rw [frzB_in (by simp), h1]; exact hb
      · rw [upd_ne z] at hb; rw [frzB_out (by simpa using z)]; exact hb
    cases s with
    | un => cases w
    | fz _ => cases w
    | ow d => obtain ⟨a, e1, w1, e2⟩ := f; exact flt e1 w1 e2
    | io d => obtain ⟨a, e1, w1, e2⟩ := f; exact flt e1 w1 e2
    | dp m d => exact f.1.fz L.ex fun a m => m
  refine ⟨_, v, frzB_ex L.ex, q, h2, ?_⟩
  have L3 := L2.slot (i := i) (t := .fz s.dat) rfl (fun d' z _ => by injection z with z; subst z; exact ⟨_, q, h2⟩)
  rw [List.set_set] at L3
  exact L3
theorem Lv.frz (L : Lv K F ρ σ B H) {i : Nat} {d : D} (e : ρ[i]? = some (.ow d)) : ∃ B' v, Ex B B' ∧ σ[i]? = some (some v) ∧ Fz K B' v d ∧ Lv K F (ρ.set i (.fz d)) σ B' H := L.frz0 e rfl
theorem Lv.free (L : Lv K F ρ σ B H) {p : Addr} (h : H p = none) : F.H0 p = none := by
  cases q : F.H0 p with
  | none => rfl
  | some o => exact absurd h (L.there p (by rw [q]; simp))
theorem Lv.own (L : Lv K F ρ σ B H) {i : Nat} {t : Slot} {v : V} {S : List Addr} (e : σ[i]? = some (some v)) (w : Ft K B H v t S) (g : ∀ a ∈ S, F.A a ∨ F.H0 a = none) (no : ∀ a ∈ S, ¬ OwS K B H (ρ.set i .un) σ a)
    (hp : ∀ d, t = .io d → ∃ a, v = .ref a ∧ F.P[i]? = some (some a)) : Lv K F (ρ.set i t) σ B H := by
  have ht := w.owned
  have inj : ∀ {u : V}, σ[i]? = some (some u) → u = v := fun {u} q => by rw [e] at q; injection q with q; injection q with q; exact q.symm
  have non : ∀ {j : Nat} {s : Slot} {u : V} {T : List Addr} {a : Addr}, j ≠ i → ρ[j]? = some s → σ[j]? = some (some u) → Ft K B H u s T → a ∈ T → a ∈ S → False := fun {j s u T a} n e1 q f m m2 =>
    no a m2 ⟨j, s, u, T, by rw [List.getElem?_set_ne (Ne.symm n)]; exact e1, q, f, m⟩
  refine ⟨L.ex, L.kept, L.there, L.exB, L.hid, fun j d e1 => ?_, fun j s e1 w1 => ?_, fun j d e1 => ?_, fun j k s u b c S1 T1 a e1 e2 q1 q2 f1 f2 m1 m2 => ?_, by rw [List.length_set]; exact L.len⟩
  · rcases get_set e1 with ⟨rfl, z, l⟩ | ⟨n, e1⟩
    · rw [← z] at ht; cases ht
    · exact L.fz j d e1
  · rcases get_set e1 with ⟨rfl, z, l⟩ | ⟨n, e1⟩
    · rw [z]; exact ⟨v, S, e, w, g⟩
    · exact L.own0 j s e1 w1
  · rcases get_set e1 with ⟨rfl, z, l⟩ | ⟨n, e1⟩
    · obtain ⟨a, h1, h2⟩ := hp d z.symm
      exact ⟨a, h2, by rw [e, h1]⟩
    · exact L.io j d e1
  · rcases get_set e1 with ⟨rfl, z, l⟩ | ⟨n, e1⟩
    · rcases get_set e2 with ⟨rfl, z2, l⟩ | ⟨n2, e2⟩
      · rfl
      · rw [z, inj q1] at f1
        rw [f1.det w] at m1
        exact (non n2 e2 q2 f2 m2 m1).elim
    · rcases get_set e2 with ⟨z1, z, l⟩ | ⟨n2, e2⟩
      · rw [z1] at q2
        rw [z, inj q2] at f2
        rw [f2.det w] at m2
        exact (non n e1 q1 f1 m1 m2).elim
      · exact L.ne0 j k s u b c S1 T1 a e1 e2 q1 q2 f1 f2 m1 m2
theorem Lv.store (L : Lv K F ρ σ B H) {i : Nat} {v : V} (hn : owned t = false) (hf : ∀ d, t = .fz d → Fz K B v d) : Lv K F (ρ.set i t) (σ.set i (some v)) B H := by
  have sg : ∀ {j : Nat}, j ≠ i → (σ.set i (some v))[j]? = σ[j]? := fun {j} h => List.getElem?_set_ne (Ne.symm h)
  refine L.few (by rw [List.length_set, List.length_set]; exact L.len) (fun j d e1 => ?_) (fun j s e1 w1 => ?_)
  · rcases get_set e1 with ⟨rfl, z, l⟩ | ⟨n, e1⟩
    · exact ⟨v, List.getElem?_set_self (by rw [← L.len]; exact l), hf d z.symm⟩
    · rw [sg n]; exact L.fz j d e1
  · rcases get_set e1 with ⟨rfl, z, l⟩ | ⟨n, e1⟩
    · rw [z, hn] at w1; cases w1
    · exact ⟨e1, sg n⟩
theorem OwS.store {i : Nat} {v : V} {a : Addr} (h : OwS K B H (ρ.set i .un) (σ.set i (some v)) a) : OwS K B H ρ σ a := by
  obtain ⟨j, s, u, S, n, e, q, f, m⟩ := h.un
  rw [List.getElem?_set_ne (Ne.symm n)] at q
  exact ⟨j, s, u, S, e, q, f, m⟩
theorem Lv.hidW0 (L : Lv K F ρ σ B H) {p : Addr} {o : HO} (hB : B p = none) (g : F.A p ∨ F.H0 p = none) (no : ¬ OwS K B H ρ σ p) : Lv K F ρ σ B (upd H p o) := by
  refine L.move (L.ex.right hB) (Ex.refl _) (fun a w => ?_) (fun a u e n => ?_) (fun a e => upd_some (L.there a e)) L.hid
  · have nap : a ≠ p := fun z => no (z ▸ w)
    exact ⟨(L.hidOw w).1, fun u q => by rw [upd_ne nap]; exact q⟩
  · have na : a ≠ p := fun z => by
      subst z
      rcases g with g | g
      · exact n g
      · rw [g] at e; cases e
    rw [upd_ne na]; exact L.kept a u e n
theorem OwS.chg {p a : Addr} {o : HO} (L : Lv K F ρ σ B H) (no : ¬ OwS K B H ρ σ p) (h : OwS K B (upd H p o) ρ σ a) : OwS K B H ρ σ a := by
  obtain ⟨i, s, v, S, e, q, f, m⟩ := h
  obtain ⟨v', S', q', f', g⟩ := L.own0 i s e f.owned
  rw [q] at q'; injection q' with q'; injection q' with q'; subst q'
  have f2 : Ft K B (upd H p o) v s S' := f'.keep (Ex.refl _) (fun b hb => (f'.hid b hb).1) (fun b hb u e1 => by
    have nb : b ≠ p := fun z => no (z ▸ ⟨i, s, v, S', e, q, f', hb⟩)
    rw [upd_ne nb]; exact e1)
  rw [f.det f2] at m
  exact ⟨i, s, v, S', e, q, f', m⟩
theorem OwS.back {a : Addr} (L : Lv K F ρ σ B H) (eB : Ex B B') (k : ∀ a, OwS K B H ρ σ a → B' a = none ∧ ∀ o, H a = some o → H' a = some o) (h : OwS K B' H' ρ σ a) : OwS K B H ρ σ a := by
  obtain ⟨i, s, v, S, e, q, f, m⟩ := h
  obtain ⟨v', S', q', f', g⟩ := L.own0 i s e f.owned
  rw [q] at q'; injection q' with q'; injection q' with q'; subst q'
  have f2 : Ft K B' H' v s S' := f'.keep eB (fun b hb => (k b ⟨i, s, v, S', e, q, f', hb⟩).1) (fun b hb => (k b ⟨i, s, v, S', e, q, f', hb⟩).2)
  rw [f.det f2] at m
  exact ⟨i, s, v, S', e, q, f', m⟩
theorem Lv.write (L : Lv K F ρ σ B H) {i : Nat} {s t : Slot} {a : Addr} {o : HO} (e : ρ[i]? = some s) (ho : flat s = true) (q : σ[i]? = some (some (V.ref a))) (ht : (∃ d, s = .ow d ∧ ∃ d', t = .ow d') ∨ ∃ d, s = .io d ∧ ∃ d', t = .io d') (w : Ow K B (upd H a o) a t.dat) : Lv K F (ρ.set i t) σ B (upd H a o) := by
  obtain ⟨v, S, q', f, g, no, L1⟩ := L.take e (flat_owned ho)
  rw [q] at q'; injection q' with q'; injection q' with q'; subst q'
  obtain ⟨w0, rfl⟩ := f.one ho
  have na := no a (by simp)
  have L2 := L1.hidW0 (o := o) w0.hid (g a (by simp)) na
  have ft : flat t = true := by rcases ht with ⟨_, _, _, z⟩ | ⟨_, _, _, z⟩ <;> rw [z] <;> rfl
  have L3 := L2.own (i := i) (t := t) q (.mk w ft) (by simpa using g a (by simp)) (fun b hb h => by
    rw [List.set_set] at h
    rw [List.mem_singleton.mp hb] at h
    exact na (h.chg L1 na)) (fun d z => by
      rcases ht with ⟨_, _, _, y⟩ | ⟨d0, y, _, _⟩
      · rw [y] at z; cases z
      · obtain ⟨b, p1, p2⟩ := L.io i d0 (by rw [e, y])
        rw [q] at p2
        obtain rfl : a = b := by injection p2 with z; injection z with z; injection z
        exact ⟨a, rfl, p1⟩)
  rw [List.set_set] at L3
  exact L3
theorem Lv.nest (L : Lv K F ρ σ B H) : Lv K ⟨B, H, OwS K B H ρ σ, F.P⟩ ρ σ B H :=
  ⟨L.ex, fun _ _ h _ => h, fun _ h => h, Ex.refl _, fun _ h _ _ => h, L.fz, fun i s e w => by
    obtain ⟨v, S, e1, f, _⟩ := L.own0 i s e w
    exact ⟨v, S, e1, f, fun a m => .inl ⟨i, s, v, S, e, e1, f, m⟩⟩, L.io, L.ne0, L.len⟩
theorem Lv.back (L : Lv K F ρ σ B H) {ρ' : Env} {σ' : St} (M : Lv K ⟨B, H, OwS K B H ρ σ, F.P⟩ ρ' σ' B' H') : Lv K F ρ' σ' B' H' := by
  have own : ∀ a, OwS K B H ρ σ a → F.A a ∨ F.H0 a = none := fun a h => L.ofOw h
  refine ⟨M.ex, fun a o e n => ?_, fun a e => M.there a (L.there a e), L.exB.trans M.exB, fun a e n k => ?_, M.fz, fun i s e w => ?_, M.io, M.ne0, M.len⟩
  · refine M.kept a o (L.kept a o e n) fun z => ?_
    rcases own a z with q | q
    · exact n q
    · rw [q] at e; cases e
  · have h1 := L.hid a e n k
    refine M.hid a h1 (n.to fun o q => L.kept a o q k) fun z => ?_
    · rcases own a z with q | q
      · exact k q
      · exact n.ne q
  · obtain ⟨v, S, e1, f, g⟩ := M.own0 i s e w
    refine ⟨v, S, e1, f, fun a m => ?_⟩
    rcases g a m with g | g
    · exact own a g
    · by_cases k : F.A a
      · exact .inl k
      · refine .inr ?_
        cases q : F.H0 a with
        | none => rfl
        | some u => have z := L.kept a u q k; rw [show H a = none from g] at z; cases z
end
end Dt
namespace Dt
open PySem PySem.Spec PyProof.Rows L2
inductive Rs (α : Type) where
  | ok (a : α) (ρ : Env)
  | rz (c : Str) (ρ : Env)
  | fail
abbrev M (α : Type) : Type := Env → Rs α
def M.pure {α : Type} (a : α) : M α := fun ρ => .ok a ρ
def M.bind {α β : Type} (f : M α) (g : α → M β) : M β := fun ρ => match f ρ with
  | .ok a ρ' => g a ρ'
  | .rz c ρ' => .rz c ρ'
  | .fail => .fail
def M.fail {α : Type} : M α := fun _ => .fail
def M.opt {α : Type} (o : Option α) : M α := fun ρ => match o with
  | some a => .ok a ρ
  | none => .fail
def M.raise {α : Type} (c : Str) : M α := fun ρ => .rz c ρ
inductive Fl where
  | nx
  | bk
  | ct
  | rt (d : D) (o : Ob)
def cv (X : Cx) (c : Str) : Value := (X.mg c).getD .none
structure We (X : Cx) (e : Expr) (σ : St) (H : Hp) (Q : VK) : Prop where
  run : ∀ (pins : List (Addr × Obj)) (s : Shared), Inv X pins σ H s → wpAny (model X.prog X.w) X.A (eval e X.env) (EP X pins σ Q) X.xe s
def we (X : Cx) (e : Expr) : TE := We X e
structure Wt (X : Cx) (e : Expr) (σ : St) (H : Hp) (Q : Bool → Hp → Prop) : Prop where
  run : ∀ (pins : List (Addr × Obj)) (s : Shared), Inv X pins σ H s → wpAny (model X.prog X.w) X.A (isTrue e X.env (eval e X.env)) (TP X pins σ Q) X.xe s
def wt (X : Cx) (e : Expr) : TT := Wt X e
structure Wa (X : Cx) (es : List Expr) (σ : St) (H : Hp) (Q : List V → Hp → Prop) : Prop where
  run : ∀ (pos : Pos) (pins : List (Addr × Obj)) (s : Shared), Inv X pins σ H s → wpAny (model X.prog X.w) X.A (spliced (backTo pos (starEach es X.env))) (AP X pins σ Q) X.xe s
def wa (X : Cx) (es : List Expr) : TA := Wa X es
structure Ws (X : Cx) (st : Stmt) (D : Ends) (σ : St) (H : Hp) : Prop where
  run : ∀ (pins : List (Addr × Obj)) (s : Shared), Inv X pins σ H s → wpAny (model X.prog X.w) X.A (exec st X.env) (SP X pins D) X.xe s
def ws (X : Cx) (st : Stmt) : TS := Ws X st
structure Wss (X : Cx) (st : List Stmt) (D : Ends) (σ : St) (H : Hp) : Prop where
  run : ∀ (pins : List (Addr × Obj)) (s : Shared), Inv X pins σ H s → wpAny (model X.prog X.w) X.A (execs st X.env) (SP X pins D) X.xe s
def wss (X : Cx) (st : List Stmt) : TS := Wss X st
section
variable {X : Cx} {e : Expr} {es : List Expr} {st : Stmt} {sts : List Stmt} {σ : St} {H : Hp}
theorem pe_we : PE X e (we X e) := ⟨fun pins s _ _ _ I h => We.run h pins s I⟩
theorem pt_wt : PT X e (wt X e) := ⟨fun pins s _ _ _ I h => Wt.run h pins s I⟩
theorem pa_wa : PA X es (wa X es) := ⟨fun pos pins s _ _ _ I h => Wa.run h pos pins s I⟩
theorem ps_ws : PS X st (ws X st) := ⟨fun pins s _ _ _ I h => Ws.run h pins s I⟩
theorem pss_wss : PSs X sts (wss X sts) := ⟨fun pins s _ _ _ I h => Wss.run h pins s I⟩
theorem PE.we {t : TE} {Q : VK} (h : PE X e t) (q : t σ H Q) : we X e σ H Q := We.mk fun pins s I => h.run pins s σ H Q I q
theorem PT.wt {t : TT} {Q : Bool → Hp → Prop} (h : PT X e t) (q : t σ H Q) : wt X e σ H Q := Wt.mk fun pins s I => h.run pins s σ H Q I q
theorem PA.wa {t : TA} {Q : List V → Hp → Prop} (h : PA X es t) (q : t σ H Q) : wa X es σ H Q := Wa.mk fun pos pins s I => h.run pos pins s σ H Q I q
theorem PS.ws {t : TS} {N : Ends} (h : PS X st t) (q : t N σ H) : ws X st N σ H := Ws.mk fun pins s I => h.run pins s σ H N I q
theorem PSs.wss {t : TS} {N : Ends} (h : PSs X sts t) (q : t N σ H) : wss X sts N σ H := Wss.mk fun pins s I => h.run pins s σ H N I q
end
def Post {α : Type} (X : Cx) (W : WX) (F : Fr) (σ : St) (B : Hp) (r : Rs α) (G : α → Env → Hp → Hp → Prop) : Prop :=
  match r with
  | .ok a ρ' => ∀ B' H', Ex B B' → Lv X.K F ρ' σ B' H' → G a ρ' B' H'
  | .rz c ρ' => ∀ B' H', Ex B B' → Lv X.K F ρ' σ B' H' → W (cv X c) none σ H'
  | .fail => False
section
variable {X : Cx} {W : WX} {F : Fr} {σ : St} {B B1 : Hp} {α β : Type} {ρ : Env}
theorem Post.weak {r : Rs α} {G : α → Env → Hp → Hp → Prop} (h : Post X W F σ B r G) (e : Ex B B1) : Post X W F σ B1 r G := by
  cases r with
  | ok a ρ' => exact fun B' H' e' L => h B' H' (e.trans e') L
  | rz c ρ' => exact fun B' H' e' L => h B' H' (e.trans e') L
  | fail => exact h
theorem Post.imp {r : Rs α} {G G' : α → Env → Hp → Hp → Prop} (h : Post X W F σ B r G) (k : ∀ a ρ' B' H', Ex B B' → Lv X.K F ρ' σ B' H' → G a ρ' B' H' → G' a ρ' B' H') : Post X W F σ B r G' := by
  cases r with
  | ok a ρ' => exact fun B' H' e L => k a ρ' B' H' e L (h B' H' e L)
  | rz c ρ' => exact h
  | fail => exact h
theorem Post.bind {f : M α} {g : α → M β} {G : β → Env → Hp → Hp → Prop} (h : Post X W F σ B (M.bind f g ρ) G) : Post X W F σ B (f ρ) (fun a ρ1 B1 _ => Post X W F σ B1 (g a ρ1) G) := by
  unfold M.bind at h
  cases q : f ρ with
  | ok a ρ' => rw [q] at h; exact fun B' H' e L => Post.weak h e
  | rz c ρ' => rw [q] at h; exact h
  | fail => rw [q] at h; exact h
theorem Post.opt {o : Option α} {G : α → Env → Hp → Hp → Prop} (h : Post X W F σ B (M.opt o ρ) G) : ∃ a, o = some a ∧ ∀ B' H', Ex B B' → Lv X.K F ρ σ B' H' → G a ρ B' H' := by
  cases o with
  | none => exact h.elim
  | some a => exact ⟨a, rfl, h⟩
end
def EV (X : Cx) (W : WX) (e : Expr) (f : M D) : Prop := ∀ (F : Fr) (ρ : Env) (σ : St) (B H : Hp) (Q : VK), Lv X.K F ρ σ B H →
  Post X W F σ B (f ρ) (fun d _ B' H' => ∀ v, Fz X.K B' v d → Q v H') → we X e σ H Q
def ET (X : Cx) (W : WX) (e : Expr) (f : M Bool) : Prop := ∀ (F : Fr) (ρ : Env) (σ : St) (B H : Hp) (Q : Bool → Hp → Prop), Lv X.K F ρ σ B H →
  Post X W F σ B (f ρ) (fun b _ _ H' => Q b H') → wt X e σ H Q
def EA (X : Cx) (W : WX) (es : List Expr) (f : M (List D)) : Prop := ∀ (F : Fr) (ρ : Env) (σ : St) (B H : Hp) (Q : List V → Hp → Prop), Lv X.K F ρ σ B H →
  Post X W F σ B (f ρ) (fun ds _ B' H' => ∀ vs, Fzs X.K B' vs ds → Q vs H') → wa X es σ H Q
def VO (K : PySem.W.Frag) (F : Fr) (ρ : Env) (σ : St) (B H : Hp) (v : V) (d : D) : Ob → Prop
  | .tt => ∃ a, v = .ref a ∧ Ow K B H a d ∧ (F.A a ∨ F.H0 a = none) ∧ ¬ OwS K B H ρ σ a
  | .ff => Fz K B v d
  | .dp m => ∃ S, Tr K B H m v d S ∧ S.Nodup ∧ ∀ a ∈ S, (F.A a ∨ F.H0 a = none) ∧ ¬ OwS K B H ρ σ a
  | .al => ∃ (j : Nat) (a : Addr), F.P[j]? = some (some a) ∧ v = .ref a
def EO (X : Cx) (W : WX) (e : Expr) (f : M (D × Ob)) : Prop := ∀ (F : Fr) (ρ : Env) (σ : St) (B H : Hp) (Q : VK), Lv X.K F ρ σ B H →
  Post X W F σ B (f ρ) (fun p ρ' B' H' => ∀ v, VO X.K F ρ' σ B' H' v p.1 p.2 → Q v H') → we X e σ H Q
def PostS (X : Cx) (W : WX) (F : Fr) (B : Hp) (r : Rs Fl) (N : Ends) : Prop :=
  match r with
  | .ok .nx ρ' => ∀ σ' B' H', Ex B B' → Lv X.K F ρ' σ' B' H' → N.nx σ' H'
  | .ok .bk ρ' => ∀ σ' B' H', Ex B B' → Lv X.K F ρ' σ' B' H' → N.bk σ' H'
  | .ok .ct ρ' => ∀ σ' B' H', Ex B B' → Lv X.K F ρ' σ' B' H' → N.ct σ' H'
  | .ok (.rt d o) ρ' => ∀ v σ' B' H', Ex B B' → Lv X.K F ρ' σ' B' H' → VO X.K F ρ' σ' B' H' v d o → N.rt v H'
  | .rz c ρ' => ∀ σ' B' H', Ex B B' → Lv X.K F ρ' σ' B' H' → W (cv X c) none σ' H'
  | .fail => False
def SV (X : Cx) (W : WX) (st : Stmt) (f : M Fl) : Prop := ∀ (F : Fr) (ρ : Env) (σ : St) (B H : Hp) (N : Ends), Lv X.K F ρ σ B H → PostS X W F B (f ρ) N → ws X st N σ H
def SVs (X : Cx) (W : WX) (sts : List Stmt) (f : M Fl) : Prop := ∀ (F : Fr) (ρ : Env) (σ : St) (B H : Hp) (N : Ends), Lv X.K F ρ σ B H → PostS X W F B (f ρ) N → wss X sts N σ H
theorem PostS.weak {X : Cx} {W : WX} {F : Fr} {B B1 : Hp} {r : Rs Fl} {N : Ends} (h : PostS X W F B r N) (e : Ex B B1) : PostS X W F B1 r N := by
  cases r with
  | ok a ρ' =>
    cases a with
    | nx => exact fun σ' B' H' e' L => h σ' B' H' (e.trans e') L
    | bk => exact fun σ' B' H' e' L => h σ' B' H' (e.trans e') L
    | ct => exact fun σ' B' H' e' L => h σ' B' H' (e.trans e') L
    | rt d o => exact fun v σ' B' H' e' L => h v σ' B' H' (e.trans e') L
  | rz c ρ' => exact fun σ' B' H' e' L => h σ' B' H' (e.trans e') L
  | fail => exact h
theorem PostS.bind {X : Cx} {W : WX} {F : Fr} {B : Hp} {σ : St} {α : Type} {ρ : Env} {f : M α} {g : α → M Fl} {N : Ends} (h : PostS X W F B (M.bind f g ρ) N) : Post X W F σ B (f ρ) (fun a ρ1 B1 _ => PostS X W F B1 (g a ρ1) N) := by
  unfold M.bind at h
  cases q : f ρ with
  | ok a ρ' => rw [q] at h; exact fun B' H' e L => PostS.weak h e
  | rz c ρ' => rw [q] at h; exact fun B' H' e L => h σ B' H' e L
  | fail => rw [q] at h; exact h
def Grow (K : PySem.W.Frag) (B H : Hp) (d : D) (Q : VK) : Prop := (∀ v, Fz K B v d → Q v H) ∧ ∀ p o v, H p = none → Fz K (upd B p o) v d → Q v (upd H p o)
theorem Lv.grow {K : PySem.W.Frag} {F : Fr} {ρ : Env} {σ : St} {B H : Hp} {d : D} {Q : VK} (L : Lv K F ρ σ B H) (h : ∀ B' H', Ex B B' → Lv K F ρ σ B' H' → ∀ v, Fz K B' v d → Q v H') : Grow K B H d Q :=
  ⟨fun v f => h B H (Ex.refl _) L v f, fun p o v n f => h _ _ (Ex.new (L.ex.nn n)) (L.alloc n) v f⟩
section
variable {X : Cx} {W : WX} {e a b c : Expr} {pos : Pos}
def mVar (i : Nat) : M D := fun ρ => match ρ[i]? with
  | some (.fz d) => .ok d ρ
  | some (.ow d) => .ok d (ρ.set i (.fz d))
  | some (.dp _ d) => .ok d (ρ.set i (.fz d))
  | _ => .fail
theorem ev_var (i : Nat) {x : Str} (hN : X.N[i]? = some x := by rfl) (hv : Vis X.env.scope x := by first | exact Or.inl rfl | exact Or.inr (Or.inl rfl) | exact Or.inr (Or.inr rfl)) (hd : (x == ("__debug__" : Str)) = false := by decide)
    (hcd : (x == ("__classdict__" : Str)) = false := by decide) : EV X W (.Name x pos) (mVar i) := by
  intro F ρ σ B H Q L P
  refine PE.we (pe_var hN hv hd hcd) ?_
  unfold mVar at P
  split at P
  · rename_i d h
    obtain ⟨v, e1, f⟩ := L.fz i d h
    exact ⟨v, e1, P B H (Ex.refl _) L v f⟩
  · rename_i d h
    obtain ⟨B', v, e1, e2, f, L'⟩ := L.frz h
    exact ⟨v, e2, P B' H e1 L' v f⟩
  · rename_i m d h
    obtain ⟨B', v, e1, e2, f, L'⟩ := L.frz0 h rfl
    exact ⟨v, e2, P B' H e1 L' v f⟩
  · exact P.elim
theorem ev_c {d : D} {v : V} (h : PE X e (tC v)) (hf : ∀ B, Fz X.K B v d) : EV X W e (M.pure d) := by
  intro F ρ σ B H Q L P
  exact PE.we h (P B H (Ex.refl _) L v (hf B))
theorem ev_int {i : Int} {j : Nat} : EV X W (.Constant (.int i) j pos) (M.pure (.int i)) := ev_c pe_int fun _ => .int i
theorem ev_str {x : Str} {j : Nat} : EV X W (.Constant (.str x) j pos) (M.pure (.str x)) := ev_c pe_str fun _ => .str x
theorem ev_bl {k : Bool} {j : Nat} : EV X W (.Constant (.bool k) j pos) (M.pure (.bl k)) := ev_c pe_bl fun _ => .bl k
theorem ev_glob {x : Str} {v : V} {u : Value} {d : D} (hg : Gl X x) (hm : X.mg x = some u) (r : RelV v u) (hf : ∀ B, Fz X.K B v d) (hd : (x == ("__debug__" : Str)) = false := by decide) : EV X W (.Name x pos) (M.pure d) := ev_c (pe_glob hg hm r hd) hf
def mBin (g : D → D → Option D) (f1 f2 : M D) : M D := M.bind f1 fun x => M.bind f2 fun y => M.opt (g x y)
def OpD (K : PySem.W.Frag) (r : R2) (g : D → D → Option D) : Prop := ∀ (x y : V) (dx dy d : D) (B H : Hp) (Q : VK), Ex B H → Fz K B x dx → Fz K B y dy → g dx dy = some d → Grow K B H d Q → r x y H Q
theorem ev_two {r : R2} {g : D → D → Option D} {f1 f2 : M D} (h : PE X e (tOp r (we X a) (we X b))) (hr : OpD X.K r g) (ha : EV X W a f1) (hb : EV X W b f2) : EV X W e (mBin g f1 f2) := by
  intro F ρ σ B H Q L P
  refine PE.we h ?_
  refine ha F ρ σ B H _ L ((Post.bind P).imp fun dx ρ1 B1 H1 e1 L1 P1 x fx => ?_)
  refine hb F ρ1 σ B1 H1 _ L1 ((Post.bind P1).imp fun dy ρ2 B2 H2 e2 L2 P2 y fy => ?_)
  obtain ⟨d, hd, k⟩ := P2.opt
  exact hr x y dx dy d B2 H2 Q L2.ex (fx.mono e2) fy hd (L2.grow k)
theorem ev_op {op : Operator} {r : R2} {g : D → D → Option D} {f1 f2 : M D} (ho : OpR X (binaryOp op) r) (hr : OpD X.K r g) (ha : EV X W a f1) (hb : EV X W b f2) : EV X W (.BinOp a op b pos) (mBin g f1 f2) :=
  ev_two (pe_op ho pe_we pe_we) hr ha hb
theorem ev_cmp {op : CmpOp} {r : R2} {g : D → D → Option D} {f1 f2 : M D} (ho : OpR X (compareOp op) r) (hr : OpD X.K r g) (ha : EV X W a f1) (hb : EV X W b f2) (hm : behindInMarks op b = false := by first | exact nomark _ | rfl) : EV X W (.Compare a [op] [b] pos) (mBin g f1 f2) :=
  ev_two (pe_cmpR ho pe_we pe_we hm) hr ha hb
theorem ev_ix {r : R2} {g : D → D → Option D} {f1 f2 : M D} (ho : IxR X r) (hr : OpD X.K r g) (ha : EV X W a f1) (hb : EV X W b f2) (hs : PlainIx b := by exact fun _ _ => rfl) : EV X W (.Subscript a b pos) (mBin g f1 f2) :=
  ev_two (pe_ix ho pe_we pe_we hs) hr ha hb
def mUn (g : D → Option D) (f1 : M D) : M D := M.bind f1 fun x => M.opt (g x)
def UnD (K : PySem.W.Frag) (r : V → Hp → VK → Prop) (g : D → Option D) : Prop := ∀ (x : V) (dx d : D) (B H : Hp) (Q : VK), Ex B H → Fz K B x dx → g dx = some d → Grow K B H d Q → r x H Q
theorem ev_un {op : UnaryOp} {r : V → Hp → VK → Prop} {g : D → Option D} {f1 : M D} (ho : UnR X (unaryOp op) r) (hr : UnD X.K r g) (ha : EV X W a f1) : EV X W (.UnaryOp op a pos) (mUn g f1) := by
  intro F ρ σ B H Q L P
  refine PE.we (pe_un ho pe_we) ?_
  refine ha F ρ σ B H _ L ((Post.bind P).imp fun dx ρ1 B1 H1 e1 L1 P1 x fx => ?_)
  obtain ⟨d, hd, k⟩ := P1.opt
  exact hr x dx d B1 H1 Q L1.ex fx hd (L1.grow k)
def mNil : M (List D) := M.pure []
def mCons (f : M D) (g : M (List D)) : M (List D) := M.bind f fun x => M.bind g fun xs => M.pure (x :: xs)
theorem ea_nil : EA X W [] mNil := fun F ρ σ B H Q L P => PA.wa pa_nil (P B H (Ex.refl _) L [] .nil)
def unStar : Expr → Bool
  | .Starred _ _ => false
  | _ => true
theorem star_un {e : Expr} {es : List Expr} {env : PySem.Env} (h : unStar e = true) : starEach (e :: es) env = (false, eval e env) :: starEach es env := by
  cases e <;> first | rfl | cases h
theorem ea_cons {es : List Expr} {f : M D} {g : M (List D)} (ha : EV X W e f) (hr : EA X W es g) (hs : starEach (e :: es) X.env = (false, eval e X.env) :: starEach es X.env := by exact star_un rfl) : EA X W (e :: es) (mCons f g) := by
  intro F ρ σ B H Q L P
  refine PA.wa (pa_cons pe_we pa_wa hs) ?_
  refine ha F ρ σ B H _ L ((Post.bind P).imp fun dx ρ1 B1 H1 e1 L1 P1 x fx => ?_)
  refine hr F ρ1 σ B1 H1 _ L1 ((Post.bind P1).imp fun ds ρ2 B2 H2 e2 L2 P2 xs fs => ?_)
  exact P2 B2 H2 (Ex.refl _) L2 _ (.cons (fx.mono e2) fs)
def mCall (g : List D → Option D) (f : M (List D)) : M D := M.bind f fun xs => M.opt (g xs)
def CallD (K : PySem.W.Frag) (r : List V → Hp → VK → Prop) (g : List D → Option D) : Prop := ∀ (xs : List V) (ds : List D) (d : D) (B H : Hp) (Q : VK), Ex B H → Fzs K B xs ds → g ds = some d → Grow K B H d Q → r xs H Q
theorem ev_callG {es : List Expr} {r : List V → Hp → VK → Prop} {g : List D → Option D} {f : M (List D)} (h : PE X e (tCB r (wa X es))) (hr : CallD X.K r g) (ha : EA X W es f) : EV X W e (mCall g f) := by
  intro F ρ σ B H Q L P
  refine PE.we h ?_
  refine ha F ρ σ B H _ L ((Post.bind P).imp fun ds ρ1 B1 H1 e1 L1 P1 xs fs => ?_)
  obtain ⟨d, hd, k⟩ := P1.opt
  exact hr xs ds d B1 H1 Q L1.ex fs hd (L1.grow k)
theorem ev_callB {x : Str} {id : String} {es : List Expr} {p : Pos} {r : List V → Hp → VK → Prop} {g : List D → Option D} {f : M (List D)} (hc : CallR X (.builtin id) r) (hr : CallD X.K r g) (hg : Gl X x) (hm : X.mg x = none) (hv : bootBuiltins x = some (.builtin id))
    (ha : EA X W (e :: es) f) (hn : x ≠ "__name__" := by decide) (hdb : (x == ("__debug__" : Str)) = false := by decide)
    (he : starEach (e :: es) X.env = (false, eval e X.env) :: starEach es X.env := by exact star_un rfl) (hpl : (backTo pos (starEach es X.env)).any (·.1) = false := by rfl) : EV X W (.Call (.Name x p) (e :: es) [] pos) (mCall g f) :=
  ev_callG (pe_callB hc hg hm hv pa_wa hn hdb he hpl) hr ha
def mTup (f : M (List D)) : M D := M.bind f fun xs => M.opt (if xs.length ≤ 10000 then some (.tup xs) else none)
theorem len_line {n : Nat} (h : n ≤ 100000) : n ≤ sizeLine := Nat.le_trans h (by decide)
theorem ev_tup {es : List Expr} {k : Nat} {f : M (List D)} (ha : EA X W es f) : EV X W (.Tuple es k pos) (mTup f) := by
  intro F ρ σ B H Q L P
  refine PE.we (pe_tup pa_wa) ?_
  refine ha F ρ σ B H _ L ((Post.bind P).imp fun ds ρ1 B1 H1 e1 L1 P1 xs fs => ?_)
  obtain ⟨d, hd, k⟩ := P1.opt
  split at hd
  · injection hd with hd; subst hd
    refine ⟨len_line (by rw [fs.len]; omega), fun p hp => (L1.grow k).2 p _ _ hp (.tup (.inl (.inl upd_same)) (fs.mono (Ex.new (L1.ex.nn hp))))⟩
  · cases hd
def Ob.ok : Ob → Bool
  | .al => false
  | _ => true
def mFz (f : M (D × Ob)) : M D := M.bind f fun p => M.opt (if p.2.ok = true then some p.1 else none)
theorem Lv.vfz {K : PySem.W.Frag} {F : Fr} {ρ : Env} {σ : St} {B H : Hp} {v : V} {d : D} {o : Ob} (L : Lv K F ρ σ B H) (h : VO K F ρ σ B H v d o) (ok : o.ok = true) : ∃ B', Ex B B' ∧ Lv K F ρ σ B' H ∧ Fz K B' v d := by
  cases o with
  | ff => exact ⟨B, Ex.refl _, L, h⟩
  | tt =>
    obtain ⟨a, rfl, w, n, no⟩ := h
    obtain ⟨o, h1, h2⟩ := w.fz
    exact ⟨_, Ex.new w.hid, L.freeze h1 w.hid n no, h2⟩
  | dp m =>
    obtain ⟨S, t, nd, g⟩ := h
    exact ⟨_, frzB_ex L.ex, L.freezeS (fun a m => (g a m).1) (fun a m => (g a m).2), t.fz L.ex fun a m => m⟩
  | al => cases ok
theorem ev_of {f : M (D × Ob)} (h : EO X W e f) : EV X W e (mFz f) := by
  intro F ρ σ B H Q L P
  refine h F ρ σ B H Q L ((Post.bind P).imp fun p ρ1 B1 H1 e1 L1 P1 v w => ?_)
  obtain ⟨d, hd, k⟩ := P1.opt
  split at hd
  · rename_i ok
    injection hd with hd; subst hd
    obtain ⟨B2, e2, L2, f2⟩ := L1.vfz w ok
    exact k B2 H1 e2 L2 v f2
  · cases hd
def mOf (f : M D) : M (D × Ob) := M.bind f fun d => M.pure (d, .ff)
theorem eo_of {f : M D} (h : EV X W e f) : EO X W e (mOf f) := by
  intro F ρ σ B H Q L P
  exact h F ρ σ B H Q L ((Post.bind P).imp fun d ρ1 B1 H1 e1 L1 P1 v w => P1 B1 H1 (Ex.refl _) L1 v w)
def mMove (i : Nat) : M (D × Ob) := fun ρ => match ρ[i]? with
  | some (.fz d) => .ok (d, .ff) ρ
  | some (.ow d) => .ok (d, .tt) (ρ.set i .un)
  | some (.dp m d) => .ok (d, .dp m) (ρ.set i .un)
  | _ => .fail
def mLst (f : M (List D)) : M (D × Ob) := M.bind f fun xs => M.opt (if xs.length ≤ 10000 then some (.lst xs, .tt) else none)
theorem Lv.newL {K : PySem.W.Frag} {F : Fr} {ρ : Env} {σ : St} {B H : Hp} {p : Addr} {xs : List V} {ds : List D} (L : Lv K F ρ σ B H) (hp : H p = none) (fs : Fzs K B xs ds) : Lv K F ρ σ B (upd H p (.lst xs)) ∧ VO K F ρ σ B (upd H p (.lst xs)) (.ref p) (.lst ds) .tt :=
  ⟨L.allocO hp, p, rfl, ⟨L.ex.nn hp, xs, upd_same, fs⟩, .inr (L.free hp), fun h => (L.hidOw (h.chg L fun z => (L.hidOw z).2.ne hp)).2.ne hp⟩
theorem eo_lst {es : List Expr} {f : M (List D)} (ha : EA X W es f) : EO X W (.List es pos) (mLst f) := by
  intro F ρ σ B H Q L P
  refine PE.we (pe_lst pa_wa) ?_
  refine ha F ρ σ B H _ L ((Post.bind P).imp fun ds ρ1 B1 H1 e1 L1 P1 xs fs => ?_)
  obtain ⟨d, hd, k⟩ := P1.opt
  split at hd
  · injection hd with hd; subst hd
    refine ⟨len_line (by rw [fs.len]; omega), fun p hp => ?_⟩
    obtain ⟨L2, v2⟩ := L1.newL hp fs
    exact k B1 _ (Ex.refl _) L2 _ v2
  · cases hd
theorem eo_move (i : Nat) {x : Str} (hN : X.N[i]? = some x := by rfl) (hv : Vis X.env.scope x := by first | exact Or.inl rfl | exact Or.inr (Or.inl rfl) | exact Or.inr (Or.inr rfl)) (hd : (x == ("__debug__" : Str)) = false := by decide)
    (hcd : (x == ("__classdict__" : Str)) = false := by decide) : EO X W (.Name x pos) (mMove i) := by
  intro F ρ σ B H Q L P
  refine PE.we (pe_var hN hv hd hcd) ?_
  unfold mMove at P
  split at P
  · rename_i d h
    obtain ⟨v, e1, f⟩ := L.fz i d h
    exact ⟨v, e1, P B H (Ex.refl _) L v f⟩
  · rename_i d h
    obtain ⟨v, S, e1, f, g, no, L1⟩ := L.take h rfl
    obtain ⟨a, rfl, w, rfl⟩ := f
    exact ⟨_, e1, P B H (Ex.refl _) L1 _ ⟨a, rfl, w, g a (by simp), no a (by simp)⟩⟩
  · rename_i m d h
    obtain ⟨v, S, e1, f, g, no, L1⟩ := L.take h rfl
    exact ⟨_, e1, P B H (Ex.refl _) L1 _ ⟨S, f.1, f.2, fun a m => ⟨g a m, no a m⟩⟩⟩
  · exact P.elim
end
end Dt
namespace Dt
open PySem PySem.Spec PyProof.Rows L2
section
variable {X : Cx} {W : WX} {e a b c : Expr} {pos : Pos}
def asBl : D → Option Bool
  | .bl k => some k
  | _ => none
theorem Fz.bl_inv {K : PySem.W.Frag} {B : Hp} {v : V} {d : D} {k : Bool} (h : Fz K B v d) (e : asBl d = some k) : v = .bl k := by
  cases h with
  | bl b => injection e with e; rw [e]
  | _ => cases e
def mTest (f : M D) : M Bool := M.bind f fun d => M.opt (asBl d)
theorem et_val {f : M D} (he : EV X W e f) (hw : ∀ whole, isTrue e X.env whole = (do let v ← whole; standAt e.pos; holding [v] (truthy v)) := by intro _; rfl) : ET X W e (mTest f) := by
  intro F ρ σ B H Q L P
  refine PT.wt (pt_val pe_we hw) ?_
  refine he F ρ σ B H _ L ((Post.bind P).imp fun d ρ1 B1 H1 e1 L1 P1 v fv => ?_)
  obtain ⟨k, hk, q⟩ := P1.opt
  exact ⟨k, fv.bl_inv hk, q B1 H1 (Ex.refl _) L1⟩
theorem et_cmp {op : CmpOp} {r : R2} {g : D → D → Option D} {f1 f2 : M D} (ho : OpR X (compareOp op) r) (hr : OpD X.K r g) (ha : EV X W a f1) (hb : EV X W b f2) (hm : behindInMarks op b = false := by first | exact nomark _ | rfl) : ET X W (.Compare a [op] [b] pos) (mTest (mBin g f1 f2)) := by
  intro F ρ σ B H Q L P
  refine PT.wt (pt_cmpR ho pe_we pe_we hm) ?_
  have P0 := Post.bind P
  refine ha F ρ σ B H _ L ((Post.bind P0).imp fun dx ρ1 B1 H1 e1 L1 P1 x fx => ?_)
  refine hb F ρ1 σ B1 H1 _ L1 ((Post.bind P1).imp fun dy ρ2 B2 H2 e2 L2 P2 y fy => ?_)
  obtain ⟨d, hd, k⟩ := P2.opt
  refine hr x y dx dy d B2 H2 _ L2.ex (fx.mono e2) fy hd (L2.grow fun B' H' e' L' v fv => ?_)
  obtain ⟨kk, hk, q⟩ := (k B' H' e' L').opt
  exact ⟨kk, fv.bl_inv hk, q B' H' (Ex.refl _) L'⟩
structure Ww (X : Cx) (e : Expr) (σ : St) (H : Hp) (Q : Bool → Hp → Prop) : Prop where
  run : ∀ (whole : Sem Value) (pins : List (Addr × Obj)) (s : Shared), Inv X pins σ H s → wpAny (model X.prog X.w) X.A (isTrue e X.env whole) (TP X pins σ Q) X.xe s
def ww (X : Cx) (e : Expr) : TT := Ww X e
theorem pw_ww : PW X e (ww X e) := ⟨fun whole pins s _ _ _ I h => Ww.run h whole pins s I⟩
theorem PW.ww {t : TT} {Q : Bool → Hp → Prop} {σ : St} {H : Hp} (h : PW X e t) (q : t σ H Q) : ww X e σ H Q := Ww.mk fun whole pins s I => h.run whole pins s σ H Q I q
def EW (X : Cx) (W : WX) (e : Expr) (f : M Bool) : Prop := ∀ (F : Fr) (ρ : Env) (σ : St) (B H : Hp) (Q : Bool → Hp → Prop), Lv X.K F ρ σ B H →
  Post X W F σ B (f ρ) (fun b _ _ H' => Q b H') → ww X e σ H Q
theorem et_w {f : M Bool} (h : EW X W e f) : ET X W e f := fun F ρ σ B H Q L P => PT.wt (PW.pt pw_ww) (h F ρ σ B H Q L P)
def mAnd (f g : M Bool) : M Bool := M.bind f fun k => match k with
  | true => g
  | false => M.pure false
def mOr (f g : M Bool) : M Bool := M.bind f fun k => match k with
  | true => M.pure true
  | false => g
def mNot (f : M Bool) : M Bool := M.bind f fun k => M.pure (!k)
theorem ew_or1 {f : M Bool} (ha : ET X W a f) : EW X W (.BoolOp .Or [a] pos) f := fun F ρ σ B H Q L P => PW.ww (pw_or1 pt_wt) (ha F ρ σ B H Q L P)
theorem ew_or {rest : List Expr} {f g : M Bool} (ha : ET X W a f) (hb : EW X W (.BoolOp .Or (b :: rest) pos) g) : EW X W (.BoolOp .Or (a :: b :: rest) pos) (mOr f g) := by
  intro F ρ σ B H Q L P
  refine PW.ww (pw_or pt_wt pw_ww) ?_
  refine ha F ρ σ B H _ L ((Post.bind P).imp fun k ρ1 B1 H1 e1 L1 P1 => ?_)
  cases k with
  | true => rw [if_pos rfl]; exact P1 B1 H1 (Ex.refl _) L1
  | false => rw [if_neg Bool.false_ne_true]; exact hb F ρ1 σ B1 H1 Q L1 P1
theorem et_not {f : M Bool} (ha : ET X W a f) : ET X W (.UnaryOp .Not a pos) (mNot f) := by
  intro F ρ σ B H Q L P
  refine PT.wt (pt_not pt_wt) ?_
  exact ha F ρ σ B H _ L ((Post.bind P).imp fun k ρ1 B1 H1 e1 L1 P1 => P1 B1 H1 (Ex.refl _) L1)
def mAndV (f g : M D) : M D := M.bind f fun d => match d with
  | .bl true => g
  | .bl false => M.pure (.bl false)
  | _ => M.fail
def mOrV (f g : M D) : M D := M.bind f fun d => match d with
  | .bl true => M.pure (.bl true)
  | .bl false => g
  | _ => M.fail
def mNotV (f : M D) : M D := M.bind f fun d => match d with
  | .bl k => M.pure (.bl (!k))
  | _ => M.fail
theorem ev_one {op : BoolOp} {f : M D} (h : EV X W a f) : EV X W (.BoolOp op [a] pos) f := fun F ρ σ B H Q L P => PE.we (pe_one pe_we) (h F ρ σ B H Q L P)
theorem ev_and {rest : List Expr} {f g : M D} (ha : EV X W a f) (hb : EV X W (.BoolOp .And (b :: rest) pos) g) : EV X W (.BoolOp .And (a :: b :: rest) pos) (mAndV f g) := by
  intro F ρ σ B H Q L P
  refine PE.we (pe_and pe_we pe_we) ?_
  refine ha F ρ σ B H _ L ((Post.bind P).imp fun d ρ1 B1 H1 e1 L1 P1 v fv => ?_)
  split at P1
  · cases fv
    exact ⟨true, rfl, by rw [if_pos rfl]; exact hb F ρ1 σ B1 H1 Q L1 P1⟩
  · cases fv
    exact ⟨false, rfl, by rw [if_neg Bool.false_ne_true]; exact P1 B1 H1 (Ex.refl _) L1 _ (.bl false)⟩
  · exact P1.elim
theorem ev_or {rest : List Expr} {f g : M D} (ha : EV X W a f) (hb : EV X W (.BoolOp .Or (b :: rest) pos) g) : EV X W (.BoolOp .Or (a :: b :: rest) pos) (mOrV f g) := by
  intro F ρ σ B H Q L P
  refine PE.we (pe_or pe_we pe_we) ?_
  refine ha F ρ σ B H _ L ((Post.bind P).imp fun d ρ1 B1 H1 e1 L1 P1 v fv => ?_)
  split at P1
  · cases fv
    exact ⟨true, rfl, by rw [if_pos rfl]; exact P1 B1 H1 (Ex.refl _) L1 _ (.bl true)⟩
  · cases fv
    exact ⟨false, rfl, by rw [if_neg Bool.false_ne_true]; exact hb F ρ1 σ B1 H1 Q L1 P1⟩
  · exact P1.elim
theorem ev_not {f : M D} (ha : EV X W a f) : EV X W (.UnaryOp .Not a pos) (mNotV f) := by
  intro F ρ σ B H Q L P
  refine PE.we (pe_not pe_we) ?_
  refine ha F ρ σ B H _ L ((Post.bind P).imp fun d ρ1 B1 H1 e1 L1 P1 v fv => ?_)
  split at P1
  · rename_i k
    cases fv
    exact ⟨k, rfl, P1 B1 H1 (Ex.refl _) L1 _ (.bl _)⟩
  · exact P1.elim
def mIf {α : Type} (t : M Bool) (f g : M α) : M α := M.bind t fun k => match k with
  | true => f
  | false => g
def mChain (g g' : D → D → Option D) (f1 f2 f3 : M D) : M D := M.bind f1 fun x => M.bind f2 fun y => M.bind (M.opt (g x y)) fun z => match z with
  | .bl true => M.bind f3 fun w => M.opt (g' y w)
  | .bl false => M.pure (.bl false)
  | _ => M.fail
end
section
variable {X : Cx} {W : WX} {pos : Pos}
structure Wg (X : Cx) (tg : Expr) (v : V) (σ : St) (H : Hp) (Q : St → Hp → Prop) : Prop where
  run : ∀ (pins : List (Addr × Obj)) (s : Shared) (u : Value), Inv X pins σ H s → RelV v u → wpAny (model X.prog X.w) X.A (assign tg X.env u) (fun _ s' => ∃ σ' H', Inv X pins σ' H' s' ∧ Q σ' H') X.xe s
def wg (X : Cx) (tg : Expr) : TG := Wg X tg
theorem pg_wg {tg : Expr} : PG X tg (wg X tg) := ⟨fun pins s _ _ _ u _ I r h => Wg.run h pins s u I r⟩
theorem PG.wg {tg : Expr} {t : TG} {v : V} {σ : St} {H : Hp} {Q : St → Hp → Prop} (h : PG X tg t) (q : t v σ H Q) : wg X tg v σ H Q := Wg.mk fun pins s u I r => h.run pins s σ H v u Q I r q
structure Wgs (X : Cx) (ts : List Expr) (vs : List V) (σ : St) (H : Hp) (Q : St → Hp → Prop) : Prop where
  run : ∀ (pins : List (Addr × Obj)) (s : Shared) (us : List Value), Inv X pins σ H s → Vals vs us → wpAny (model X.prog X.w) X.A (assignInOrder ((assignEach ts X.env).map (·.2)) us) (fun _ s' => ∃ σ' H', Inv X pins σ' H' s' ∧ Q σ' H') X.xe s
def wgs (X : Cx) (ts : List Expr) : TGs := Wgs X ts
theorem pgs_wgs {ts : List Expr} : PGs X ts (wgs X ts) := ⟨fun pins s _ _ _ us _ I r h => Wgs.run h pins s us I r⟩
theorem PGs.wgs {ts : List Expr} {t : TGs} {vs : List V} {σ : St} {H : Hp} {Q : St → Hp → Prop} (h : PGs X ts t) (q : t vs σ H Q) : wgs X ts vs σ H Q := Wgs.mk fun pins s us I r => h.run pins s σ H vs us Q I r q
def Onl (is : List Nat) (σ σ' : St) : Prop := σ'.length = σ.length ∧ ∀ j, j ∉ is → σ'[j]? = σ[j]?
theorem Onl.refl (σ : St) : Onl [] σ σ := ⟨rfl, fun _ _ => rfl⟩
theorem Onl.trans {is js : List Nat} {σ σ1 σ2 : St} (a : Onl is σ σ1) (b : Onl js σ1 σ2) : Onl (is ++ js) σ σ2 :=
  ⟨b.1.trans a.1, fun j h => (b.2 j fun z => h (List.mem_append_right _ z)).trans (a.2 j fun z => h (List.mem_append_left _ z))⟩
theorem Onl.set (σ : St) (i : Nat) (v : Option V) : Onl [i] σ (σ.set i v) := ⟨List.length_set, fun j h => List.getElem?_set_ne (fun z => h (by simp [z]))⟩
def PostG (X : Cx) (F : Fr) (B : Hp) (σ : St) (is : List Nat) (r : Option Env) (Q : St → Hp → Prop) : Prop :=
  match r with
  | some ρ' => ∀ σ' B' H', Onl is σ σ' → Ex B B' → Lv X.K F ρ' σ' B' H' → Q σ' H'
  | none => False
def GV (X : Cx) (tg : Expr) (is : List Nat) (g : D → Env → Option Env) : Prop := ∀ (F : Fr) (ρ : Env) (σ : St) (B H : Hp) (v : V) (d : D) (Q : St → Hp → Prop), Lv X.K F ρ σ B H → Fz X.K B v d → PostG X F B σ is (g d ρ) Q → wg X tg v σ H Q
def GVs (X : Cx) (ts : List Expr) (is : List Nat) (g : List D → Env → Option Env) : Prop := ∀ (F : Fr) (ρ : Env) (σ : St) (B H : Hp) (vs : List V) (ds : List D) (Q : St → Hp → Prop), Lv X.K F ρ σ B H → Fzs X.K B vs ds → PostG X F B σ is (g ds ρ) Q → wgs X ts vs σ H Q
def gN (i : Nat) (d : D) (ρ : Env) : Option Env := some (ρ.set i (.fz d))
theorem gv_name {i : Nat} {x : Str} (hN : X.N.Nodup) (hi : X.N[i]? = some x := by rfl) (hx : Loc X.env.scope x := by first | exact Or.inl rfl | exact Or.inr rfl) (hf : X.fn x = true ∨ X.env.scope.names.lookup x = some .local := by first | exact .inl rfl | exact .inr rfl | assumption) : GV X (.Name x pos) [i] (gN i) := by
  intro F ρ σ B H v d Q L fv P
  refine PG.wg (pg_name hN hi hx hf) ?_
  exact P _ B H (Onl.set σ i _) (Ex.refl _) (L.store rfl fun d' z => by injection z with z; subst z; exact fv)
def gsN (ds : List D) (ρ : Env) : Option Env := match ds with
  | [] => some ρ
  | _ => none
def gsC (g : D → Env → Option Env) (gs : List D → Env → Option Env) (ds : List D) (ρ : Env) : Option Env := match ds with
  | d :: r => (g d ρ).bind (gs r)
  | [] => none
theorem gvs_nil : GVs X [] [] gsN := by
  intro F ρ σ B H vs ds Q L fs P
  refine PGs.wgs pgs_nil ?_
  cases fs with
  | nil => exact ⟨rfl, P σ B H (Onl.refl σ) (Ex.refl _) L⟩
  | cons h hs => exact P.elim
theorem gvs_cons {e : Expr} {es : List Expr} {is js : List Nat} {g : D → Env → Option Env} {gs : List D → Env → Option Env} (h1 : GV X e is g) (h2 : GVs X es js gs)
    (hs : (assignEach (e :: es) X.env).map (·.2) = assign e X.env :: (assignEach es X.env).map (·.2) := by rfl) : GVs X (e :: es) (is ++ js) (gsC g gs) := by
  intro F ρ σ B H vs ds Q L fs P
  refine PGs.wgs (pgs_cons pg_wg pgs_wgs hs) ?_
  cases fs with
  | nil => exact P.elim
  | @cons v vs d ds f fs =>
    refine ⟨v, vs, rfl, h1 F ρ σ B H v d _ L f ?_⟩
    have P' : PostG X F B σ (is ++ js) ((g d ρ).bind (gs ds)) Q := P
    cases q : g d ρ with
    | none => rw [q] at P'; exact P'.elim
    | some ρ1 =>
      rw [q] at P'
      intro σ1 B1 H1 o1 e1 L1
      refine h2 F ρ1 σ1 B1 H1 vs ds Q L1 (fs.mono e1) ?_
      have P2 : PostG X F B σ (is ++ js) (gs ds ρ1) Q := P'
      cases q2 : gs ds ρ1 with
      | none => rw [q2] at P2; exact P2.elim
      | some ρ2 => rw [q2] at P2; exact fun σ' B' H' o' e' L' => P2 σ' B' H' (o1.trans o') (e1.trans e') L'
def gT (n : Nat) (gs : List D → Env → Option Env) (d : D) (ρ : Env) : Option Env := match d with
  | .tup ds => if ds.length = n then gs ds ρ else none
  | _ => none
theorem gv_tup {es : List Expr} {k n : Nat} {is : List Nat} {gs : List D → Env → Option Env} (hc : X.calm = true) (h : GVs X es is gs) (hn : (assignEach es X.env).length = n := by rfl) (hst : (assignEach es X.env).findIdx? (·.1) = none := by rfl) : GV X (.Tuple es k pos) is (gT n gs) := by
  intro F ρ σ B H v d Q L fv P
  refine PG.wg (pg_tup hc pgs_wgs hn hst) ?_
  cases fv with
  | @tup a xs ds hs fs =>
    have P' : PostG X F B σ is (if ds.length = n then gs ds ρ else none) Q := P
    split at P'
    · rename_i hl
      exact ⟨a, xs, rfl, L.ex.st hs, by rw [fs.len]; exact hl, h F ρ σ B H xs ds Q L fs P'⟩
    · exact P'.elim
  | _ => exact P.elim
end
section
variable {X : Cx} {W : WX} {e : Expr} {pos : Pos} {st : Stmt} {rest : List Stmt}
def mSeq (f g : M Fl) : M Fl := M.bind f fun fl => match fl with
  | .nx => g
  | .bk => M.pure .bk
  | .ct => M.pure .ct
  | .rt d o => M.pure (.rt d o)
def mNx : M Fl := M.pure .nx
theorem svs_nil : SVs X W [] mNx := fun F ρ σ B H N L P => PSs.wss pss_nil (P σ B H (Ex.refl _) L)
theorem svs_cons {f g : M Fl} (h1 : SV X W st f) (h2 : SVs X W rest g) : SVs X W (st :: rest) (mSeq f g) := by
  intro F ρ σ B H N L P
  refine PSs.wss (pss_cons ps_ws pss_wss) ?_
  refine h1 F ρ σ B H _ L ?_
  have P' : PostS X W F B (M.bind f _ ρ) N := P
  unfold M.bind at P'
  cases q : f ρ with
  | ok fl ρ1 =>
    rw [q] at P'
    cases fl with
    | nx => exact fun σ' B' H' e' L' => h2 F ρ1 σ' B' H' N L' (PostS.weak P' e')
    | bk => exact P'
    | ct => exact P'
    | rt d o => exact P'
  | rz c ρ1 => rw [q] at P'; exact P'
  | fail => rw [q] at P'; exact P'
theorem svs_one {f : M Fl} (h1 : SV X W st f) : SVs X W [st] f := fun F ρ σ B H N L P => PSs.wss (pss_one ps_ws) (h1 F ρ σ B H N L P)
def Slot.of : D × Ob → Option Slot
  | (d, .ff) => some (.fz d)
  | (d, .tt) => some (.ow d)
  | (d, .dp m) => some (.dp m d)
  | (_, .al) => none
def mPut (i : Nat) (p : D × Ob) : M Fl := fun ρ => match Slot.of p with
  | some s => .ok .nx (ρ.set i s)
  | none => .fail
def mSet (i : Nat) (f : M (D × Ob)) : M Fl := M.bind f (mPut i)
theorem Lv.put {K : PySem.W.Frag} {F : Fr} {ρ : Env} {σ : St} {B H : Hp} {v : V} {p : D × Ob} {i : Nat} {s : Slot} (L : Lv K F ρ σ B H) (w : VO K F ρ σ B H v p.1 p.2) (hs : Slot.of p = some s) : Lv K F (ρ.set i s) (σ.set i (some v)) B H := by
  obtain ⟨d, o⟩ := p
  have own : ∀ {S : List Addr}, Ft K B H v s S → (∀ a ∈ S, (F.A a ∨ F.H0 a = none) ∧ ¬ OwS K B H ρ σ a) → (∀ d, s ≠ .io d) → Lv K F (ρ.set i s) (σ.set i (some v)) B H := by
    intro S f g nio
    have L1 : Lv K F (ρ.set i .un) (σ.set i (some v)) B H := L.store rfl fun d' z => nomatch z
    by_cases hi : i < ρ.length
    · have L2 := L1.own (i := i) (t := s) (v := v) (List.getElem?_set_self (by rw [← L.len]; exact hi)) f (fun a m => (g a m).1) (fun a m h => by
        rw [List.set_set] at h
        exact (g a m).2 h.store) (fun d z => absurd z (nio d))
      rw [List.set_set] at L2; exact L2
    · have e1 : ρ.set i s = ρ := List.set_eq_of_length_le (by omega)
      have e2 : σ.set i (some v) = σ := List.set_eq_of_length_le (by rw [← L.len]; omega)
      rw [e1, e2]; exact L
  cases o with
  | ff => injection hs with hs; subst hs; exact L.store rfl fun d' z => by injection z with z; subst z; exact w
  | tt =>
    injection hs with hs; subst hs
    obtain ⟨a, rfl, w, g, no⟩ := w
    exact own ⟨a, rfl, w, rfl⟩ (fun b hb => by rw [List.mem_singleton.mp hb]; exact ⟨g, no⟩) (fun d z => nomatch z)
  | dp m =>
    injection hs with hs; subst hs
    obtain ⟨S, t, nd, g⟩ := w
    exact own ⟨t, nd⟩ g (fun d z => nomatch z)
  | al => cases hs
theorem PostS.put {X : Cx} {W : WX} {F : Fr} {B : Hp} {N : Ends} {ρ : Env} {σ : St} {H : Hp} {v : V} {p : D × Ob} {i : Nat} (P : PostS X W F B (mPut i p ρ) N) (L : Lv X.K F ρ σ B H) (w : VO X.K F ρ σ B H v p.1 p.2) : N.nx (σ.set i (some v)) H := by
  unfold mPut at P
  cases q : Slot.of p with
  | none => simp only [q] at P; exact P.elim
  | some s => simp only [q] at P; exact P _ B H (Ex.refl _) (L.put w q)
theorem sv_set {i : Nat} {x : Str} {pos' : Pos} {f : M (D × Ob)} (he : EO X W e f) (hN : X.N.Nodup) (hi : X.N[i]? = some x := by rfl) (hx : Loc X.env.scope x := by first | exact Or.inl rfl | exact Or.inr rfl)
    (hs : swapsWith e (some (.Name x pos')) pos.line X.env = pure false := by rfl) (hf : X.fn x = true ∨ X.env.scope.names.lookup x = some .local := by first | exact .inl rfl | exact .inr rfl | assumption) : SV X W (.Assign [.Name x pos'] e pos) (mSet i f) := by
  intro F ρ σ B H N L P
  refine PS.ws (ps_set hN hi hx pe_we hs hf) ?_
  refine he F ρ σ B H _ L ((PostS.bind P).imp fun p ρ1 B1 H1 e1 L1 P1 v w => ?_)
  exact P1.put L1 w
def mAsg (g : D → Env → Option Env) (f : M D) : M Fl := M.bind f fun d ρ => match g d ρ with
  | some ρ' => .ok .nx ρ'
  | none => .fail
theorem sv_asg {tg : Expr} {is : List Nat} {g : D → Env → Option Env} {f : M D} (he : EV X W e f) (hg : GV X tg is g) (hs : swapsWithSole [tg] e pos.line X.env = pure false := by rfl) (hw : swappedStores [tg] e X.env = pure none := by rfl)
    (h1 : (assignEach [tg] X.env).map (·.2) = [assign tg X.env] := by rfl) : SV X W (.Assign [tg] e pos) (mAsg g f) := by
  intro F ρ σ B H N L P
  refine PS.ws (ps_asg pe_we pg_wg hs hw h1) ?_
  refine he F ρ σ B H _ L ((PostS.bind P).imp fun d ρ1 B1 H1 e1 L1 P1 v fv => ?_)
  refine hg F ρ1 σ B1 H1 v d _ L1 fv ?_
  cases q : g d ρ1 with
  | none => simp only [q] at P1; exact P1
  | some ρ2 => simp only [q] at P1; exact fun σ' B' H' _ e' L' => P1 σ' B' H' e' L'
def mPar (i j : Nat) (f : M (List D)) : M Fl := M.bind f fun ds ρ => match ds with
  | [x, y] => .ok .nx ((ρ.set i (.fz x)).set j (.fz y))
  | _ => .fail
theorem sv_par {i j : Nat} {x y : Str} {a b : Expr} {px py pt : Pos} {kt k2 : Nat} {pt2 : Pos} {f : M (List D)} (hc : X.calm = true) (hN : X.N.Nodup) (ha : EA X W [a, b] f) (hi : X.N[i]? = some x := by rfl) (hj : X.N[j]? = some y := by rfl) (hij : i ≠ j := by decide)
    (hx : X.env.scope.names.lookup x = some .local := by rfl) (hy : X.env.scope.names.lookup y = some .local := by rfl)
    (hw : swappedStores [.Tuple [.Name x px, .Name y py] kt pt] (.Tuple [a, b] k2 pt2) X.env = pure (some [x, y]) := by rfl)
    (hs : swapsWithSole [.Tuple [.Name x px, .Name y py] kt pt] (.Tuple [a, b] k2 pt2) pos.line X.env = pure false := by rfl) :
    SV X W (.Assign [.Tuple [.Name x px, .Name y py] kt pt] (.Tuple [a, b] k2 pt2) pos) (mPar i j f) := by
  intro F ρ σ B H N L P
  refine PS.ws (ps_par hc hN hi hj hij hx hy pa_wa hw hs) ?_
  refine ha F ρ σ B H _ L ((PostS.bind P).imp fun ds ρ1 B1 H1 e1 L1 P1 vs fs => ?_)
  split at P1
  · cases fs with
    | cons f1 fs =>
      cases fs with
      | cons f2 fs =>
        cases fs
        refine ⟨_, _, rfl, P1 _ B1 H1 (Ex.refl _) ?_⟩
        exact (L1.store (i := i) rfl fun d' z => by injection z with z; subst z; exact f1).store (i := j) rfl fun d' z => by injection z with z; subst z; exact f2
  · exact P1.elim
def mRet (f : M (D × Ob)) : M Fl := M.bind f fun p => M.pure (.rt p.1 p.2)
theorem sv_ret {f : M (D × Ob)} (he : EO X W e f) : SV X W (.Return (some e) pos) (mRet f) := by
  intro F ρ σ B H N L P
  refine PS.ws (ps_ret pe_we) ?_
  exact he F ρ σ B H _ L ((PostS.bind P).imp fun p ρ1 B1 H1 e1 L1 P1 v w => P1 v σ B1 H1 (Ex.refl _) L1 w)
def mDrop (f : M D) : M Fl := M.bind f fun _ => mNx
theorem sv_expr {f : M D} (he : EV X W e f) (hs : swapsWith e none pos.line X.env = pure false := by rfl) : SV X W (.Expr e pos) (mDrop f) := by
  intro F ρ σ B H N L P
  refine PS.ws (ps_expr pe_we hs) ?_
  exact he F ρ σ B H _ L ((PostS.bind P).imp fun p ρ1 B1 H1 e1 L1 P1 v w => P1 σ B1 H1 (Ex.refl _) L1)
theorem sv_if {c : Expr} {a b : List Stmt} {t : M Bool} {f g : M Fl} (hc : ET X W c t) (ha : SVs X W a f) (hb : SVs X W b g) : SV X W (.If c a b pos) (mIf t f g) := by
  intro F ρ σ B H N L P
  refine PS.ws (ps_if pt_wt pss_wss pss_wss) ?_
  refine hc F ρ σ B H _ L ((PostS.bind P).imp fun k ρ1 B1 H1 e1 L1 P1 => ?_)
  cases k with
  | true => rw [if_pos rfl]; exact ha F ρ1 σ B1 H1 N L1 P1
  | false => rw [if_neg Bool.false_ne_true]; exact hb F ρ1 σ B1 H1 N L1 P1
def mWhN (t : M Bool) (b : M Fl) : Nat → M Fl
  | 0 => M.fail
  | n + 1 => M.bind t fun k => match k with
    | false => mNx
    | true => M.bind b fun fl => match fl with
      | .nx => mWhN t b n
      | .ct => mWhN t b n
      | .bk => mNx
      | .rt d o => M.pure (.rt d o)
open Classical in
noncomputable def mWh (t : M Bool) (b : M Fl) : M Fl := fun ρ => if h : ∃ n, mWhN t b n ρ ≠ .fail then mWhN t b (choose h) ρ else .fail
theorem mWhN_up (t : M Bool) (b : M Fl) : ∀ (n : Nat) (ρ : Env), mWhN t b n ρ ≠ .fail → ∀ m, n ≤ m → mWhN t b m ρ = mWhN t b n ρ
  | 0, ρ, h, _, _ => absurd rfl h
  | n + 1, ρ, h, 0, hm => by omega
  | n + 1, ρ, h, m + 1, hm => by
    unfold mWhN M.bind at h ⊢
    cases q : t ρ with
    | ok k ρ1 =>
      simp only [q] at h ⊢
      cases k with
      | false => rfl
      | true =>
        simp only at h ⊢
        cases q2 : b ρ1 with
        | ok fl ρ2 =>
          simp only [q2] at h ⊢
          cases fl with
          | nx => exact mWhN_up t b n ρ2 h m (by omega)
          | ct => exact mWhN_up t b n ρ2 h m (by omega)
          | bk => rfl
          | rt d o => rfl
        | rz c ρ2 => rfl
        | fail => rfl
    | rz c ρ1 => rfl
    | fail => rfl
theorem mWh_eq {t : M Bool} {b : M Fl} {n : Nat} {ρ : Env} (h : mWhN t b n ρ ≠ .fail) : mWh t b ρ = mWhN t b n ρ := by
  have hx : ∃ n, mWhN t b n ρ ≠ .fail := ⟨n, h⟩
  unfold mWh
  rw [dif_pos hx]
  have h2 := Classical.choose_spec hx
  by_cases q : n ≤ Classical.choose hx
  · exact mWhN_up t b n ρ h _ q
  · exact (mWhN_up t b _ ρ h2 n (by omega)).symm
theorem sv_while {c : Expr} {body : List Stmt} {t : M Bool} {b : M Fl} (hp : PassesOwn (model X.prog X.w) X.A X.env X.xe) (hc : ET X W c t) (hb : SVs X W body b) : SV X W (.While c body [] pos) (mWh t b) := by
  intro F ρ σ B H N L P
  refine PS.ws (ps_while hp pt_wt pss_wss) ?_
  unfold mWh at P
  split at P
  · rename_i hx
    refine ⟨fun m σ' H' => ∃ ρ' B', Lv X.K F ρ' σ' B' H' ∧ PostS X W F B' (mWhN t b m ρ') N, ⟨_, ρ, B, L, P⟩, ?_⟩
    rintro m σ1 H1 ⟨ρ1, B1, L1, P1⟩
    cases m with
    | zero => exact P1.elim
    | succ n =>
      unfold mWhN at P1
      refine hc F ρ1 σ1 B1 H1 _ L1 ((PostS.bind P1).imp fun k ρ2 B2 H2 e2 L2 P2 => ?_)
      cases k with
      | false => rw [if_neg Bool.false_ne_true]; exact P2 σ1 B2 H2 (Ex.refl _) L2
      | true =>
        rw [if_pos rfl]
        refine ⟨fun σ' H' => ∃ ρ' B', Lv X.K F ρ' σ' B' H' ∧ PostS X W F B' (mWhN t b n ρ') N, fun σ' H' q => ⟨n, Nat.lt_succ_self n, q⟩, ?_⟩
        refine hb F ρ2 σ1 B2 H2 _ L2 ?_
        have P3 : PostS X W F B2 (M.bind b _ ρ2) N := P2
        unfold M.bind at P3
        cases q : b ρ2 with
        | ok fl ρ3 =>
          rw [q] at P3
          cases fl with
          | nx => exact fun σ' B' H' e' L' => ⟨ρ3, B', L', PostS.weak P3 e'⟩
          | ct => exact fun σ' B' H' e' L' => ⟨ρ3, B', L', PostS.weak P3 e'⟩
          | bk => exact P3
          | rt d o => exact P3
        | rz c ρ3 => rw [q] at P3; exact P3
        | fail => rw [q] at P3; exact P3
  · exact P.elim
end
section
variable {X : Cx} {W : WX} {tg e : Expr} {pos : Pos}
structure Wi (X : Cx) (tg iter : Expr) (σ : St) (H : Hp) (R : It → Hp → Prop) : Prop where
  run : ∀ (pins : List (Addr × Obj)) (s : Shared), Inv X pins σ H s → wpAny (model X.prog X.w) X.A (eval iter X.env) (fun v s1 => wpAny (model X.prog X.w) X.A (pyIter v) (PIE X pins σ tg R) X.xe s1) X.xe s
def wi (X : Cx) (tg iter : Expr) : TI := Wi X tg iter
theorem pi_wi : PI X tg e (wi X tg e) := ⟨fun pins s _ _ _ I h => Wi.run h pins s I⟩
theorem PI.wi {t : TI} {σ : St} {H : Hp} {R : It → Hp → Prop} (h : PI X tg e t) (q : t σ H R) : wi X tg e σ H R := Wi.mk fun pins s I => h.run pins s σ H R I q
structure ItOk (K : PySem.W.Frag) (J : It) (B : Hp) (ds : List D) : Prop where
  go : ∀ B' H' i, Ex B B' → Ex B' H' → i < ds.length → J.go i H'
  stop : ∀ B' H' i, Ex B B' → Ex B' H' → ds.length ≤ i → J.stop i H'
  yld : ∀ B' H' i x H3 d, Ex B B' → Ex B' H' → J.yld i H' x H3 → ds[i]? = some d → (H3 = H' ∧ Fz K B' x d) ∨ (∃ p o, H' p = none ∧ H3 = upd H' p o ∧ Fz K (upd B' p o) x d) ∨ ∃ p xs, H' p = some (.tup xs) ∧ B' p = none ∧ H3 = H' ∧ Fz K (upd B' p (.tup xs)) x d
def IV (X : Cx) (W : WX) (tg iter : Expr) (f : M (List D)) : Prop := ∀ (F : Fr) (ρ : Env) (σ : St) (B H : Hp) (R : It → Hp → Prop), Lv X.K F ρ σ B H →
  Post X W F σ B (f ρ) (fun ds _ B' H' => ∀ J, ItOk X.K J B' ds → R J H') → wi X tg iter σ H R
def mIter (f : M D) : M (List D) := M.bind f fun d => M.opt (match d with
  | .lst ds => some ds
  | _ => none)
theorem it_list {K : PySem.W.Frag} {a : Addr} {xs : List V} {B : Hp} {ds : List D} (h : B a = some (.lst xs)) (fs : Fzs K B xs ds) : ItOk K (Itl K a) B ds where
  go := fun B' H' i e1 e2 hi => by
    have hi' : i < xs.length := by rw [fs.len]; exact hi
    exact ⟨xs, xs[i], .inl (.inl (e2 _ _ (e1 _ _ h))), List.getElem?_eq_getElem hi'⟩
  stop := fun B' H' i e1 e2 hi => ⟨xs, .inl (.inl (e2 _ _ (e1 _ _ h))), by rw [fs.len]; exact hi⟩
  yld := fun B' H' i x H3 d e1 e2 y hd => by
    obtain ⟨hH, hx⟩ := y
    have h1 := hx xs (.inl (.inl (e2 _ _ (e1 _ _ h))))
    obtain ⟨d', hd', f⟩ := fs.getV h1
    rw [hd] at hd'; cases hd'
    exact .inl ⟨hH, f.mono e1⟩
theorem iv_list {f : M D} (he : EV X W e f) : IV X W tg e (mIter f) := by
  intro F ρ σ B H R L P
  refine PI.wi (pi_list pe_we) ?_
  refine he F ρ σ B H _ L ((Post.bind P).imp fun d ρ1 B1 H1 e1 L1 P1 v fv => ?_)
  obtain ⟨ds, hd, k⟩ := P1.opt
  cases fv with
  | @lst a xs ds' h fs =>
    injection hd with hd; subst hd
    exact ⟨a, rfl, ⟨xs, .inl (.inl (L1.ex _ _ h))⟩, k B1 H1 (Ex.refl _) L1 _ (it_list h fs)⟩
  | _ => cases hd
def rangeD (lo hi : Int) : List D := (List.range (hi - lo).toNat).map fun (i : Nat) => D.int (lo + (i : Int))
theorem rangeD_len (lo hi : Int) : (rangeD lo hi).length = (hi - lo).toNat := by unfold rangeD; rw [List.length_map, List.length_range]
theorem it_range {K : PySem.W.Frag} {B : Hp} (lo hi : Int) : ItOk K (Itr lo (hi - lo).toNat) B (rangeD lo hi) where
  go := fun B' H' i e1 e2 h => by rw [rangeD_len] at h; exact h
  stop := fun B' H' i e1 e2 h => by rw [rangeD_len] at h; exact h
  yld := fun B' H' i x H3 d e1 e2 y hd => by
    obtain ⟨hH, hx⟩ := y
    unfold rangeD at hd
    rw [List.getElem?_map] at hd
    cases q : (List.range (hi - lo).toNat)[i]? with
    | none => rw [q] at hd; cases hd
    | some j =>
      rw [q] at hd
      obtain ⟨h1, h2⟩ := List.getElem?_eq_some_iff.mp q
      rw [List.getElem_range] at h2
      injection hd with hd
      subst hd; subst h2
      exact .inl ⟨hH, by rw [hx]; exact .int _⟩
def mRange1 (f : M (List D)) : M (List D) := M.bind f fun ds => M.opt (match ds with
  | [.int j] => if -100000000 < j ∧ j < 100000000 then some (rangeD 0 j) else none
  | _ => none)
def mRange2 (f : M (List D)) : M (List D) := M.bind f fun ds => M.opt (match ds with
  | [.int i, .int j] => if (-100000000 < i ∧ i < 100000000) ∧ (-100000000 < j ∧ j < 100000000) then some (rangeD i j) else none
  | _ => none)
theorem iv_range1 {a : Expr} {p : Pos} {f : M (List D)} (hg : Gl X "range") (hm : X.mg "range" = none) (ha : EA X W [a] f) (hs : starEach [a] X.env = [(false, eval a X.env)] := by rfl) : IV X W tg (.Call (.Name "range" p) [a] [] pos) (mRange1 f) := by
  intro F ρ σ B H R L P
  refine PI.wi (pi_range1 hg hm pa_wa hs) ?_
  refine ha F ρ σ B H _ L ((Post.bind P).imp fun ds ρ1 B1 H1 e1 L1 P1 vs fs => ?_)
  obtain ⟨xs, hd, k⟩ := P1.opt
  split at hd
  · rename_i j
    cases fs with
    | cons f1 fs =>
      cases fs
      cases f1
      split at hd
      · rename_i hj
        injection hd with hd; subst hd
        refine ⟨j, rfl, by omega, by omega, ?_⟩
        have := k B1 H1 (Ex.refl _) L1 (Itr 0 j.toNat) (by have q := it_range (K := X.K) (B := B1) 0 j; rw [show j - 0 = j by omega] at q; exact q)
        exact this
      · cases hd
  · cases hd
def mForL (g : D → Env → Option Env) (b : M Fl) : List D → M Fl
  | [] => mNx
  | d :: r => fun ρ => match g d ρ with
    | none => .fail
    | some ρ1 => M.bind b (fun fl => match fl with
      | .nx => mForL g b r
      | .ct => mForL g b r
      | .bk => mNx
      | .rt d o => M.pure (.rt d o)) ρ1
def mFor (f : M (List D)) (g : D → Env → Option Env) (b : M Fl) : M Fl := M.bind f (mForL g b)
theorem sv_for {iter : Expr} {body : List Stmt} {is : List Nat} {f : M (List D)} {g : D → Env → Option Env} {b : M Fl} (hp : PassesOwn (model X.prog X.w) X.A X.env X.xe) (hc : X.calm = true) (hi : IV X W tg iter f) (hg : GV X tg is g) (hb : SVs X W body b)
    (hs : ∀ x, foldedSetIterable iter X.env x = pure x := by intro _; rfl) : SV X W (.For tg iter body [] pos) (mFor f g b) := by
  intro F ρ σ B H N L P
  refine PS.ws (ps_for hp hc pi_wi pg_wg pss_wss hs) ?_
  refine hi F ρ σ B H _ L ((PostS.bind P).imp fun ds ρ1 B1 H1 e1 L1 P1 J hJ => ?_)
  refine ⟨fun i m σ' H' => m = ds.length - i ∧ i ≤ ds.length ∧ ∃ ρ' B', Lv X.K F ρ' σ' B' H' ∧ Ex B1 B' ∧ PostS X W F B' (mForL g b (ds.drop i) ρ') N, ⟨ds.length, by simp, Nat.zero_le _, ρ1, B1, L1, Ex.refl _, P1⟩, ?_⟩
  rintro i m σ2 H2 ⟨rfl, hi2, ρ2, B2, L2, e2, P2⟩
  by_cases hlt : i < ds.length
  · refine .inr ⟨hJ.go B2 H2 i e2 L2.ex hlt, fun σ' H' => ∃ ρ' B', Lv X.K F ρ' σ' B' H' ∧ Ex B1 B' ∧ PostS X W F B' (mForL g b (ds.drop (i + 1)) ρ') N, fun σ' H' q => ⟨ds.length - (i + 1), by omega, rfl, hlt, q⟩, fun x H3 hy => ?_⟩
    rw [List.drop_eq_getElem_cons hlt] at P2
    have hd : ds[i]? = some ds[i] := List.getElem?_eq_getElem hlt
    have fin : ∀ (B3 : Hp), Ex B2 B3 → Lv X.K F ρ2 σ2 B3 H3 → Fz X.K B3 x ds[i] → wg X tg x σ2 H3 (fun σ3 H4 => wss X body { nx := fun σ' H' => ∃ ρ' B', Lv X.K F ρ' σ' B' H' ∧ Ex B1 B' ∧ PostS X W F B' (mForL g b (ds.drop (i + 1)) ρ') N, rt := N.rt, bk := N.nx, ct := fun σ' H' => ∃ ρ' B', Lv X.K F ρ' σ' B' H' ∧ Ex B1 B' ∧ PostS X W F B' (mForL g b (ds.drop (i + 1)) ρ') N } σ3 H4) := by
      intro B3 e3 L3 fx
      refine hg F ρ2 σ2 B3 H3 x ds[i] _ L3 fx ?_
      have P3 : PostS X W F B2 (match g ds[i] ρ2 with | none => .fail | some ρ1 => M.bind b (fun fl => match fl with | .nx => mForL g b (ds.drop (i + 1)) | .ct => mForL g b (ds.drop (i + 1)) | .bk => mNx | .rt d o => M.pure (.rt d o)) ρ1) N := P2
      cases q : g ds[i] ρ2 with
      | none => rw [q] at P3; exact P3.elim
      | some ρ3 =>
        rw [q] at P3
        intro σ4 B4 H4 _ e4 L4
        refine hb F ρ3 σ4 B4 H4 _ L4 ?_
        have P4 := PostS.weak P3 (e3.trans e4)
        have P5 : PostS X W F B4 (M.bind b _ ρ3) N := P4
        unfold M.bind at P5
        cases q2 : b ρ3 with
        | ok fl ρ4 =>
          rw [q2] at P5
          cases fl with
          | nx => exact fun σ' B' H' e' L' => ⟨ρ4, B', L', ((e2.trans e3).trans e4).trans e', PostS.weak P5 e'⟩
          | ct => exact fun σ' B' H' e' L' => ⟨ρ4, B', L', ((e2.trans e3).trans e4).trans e', PostS.weak P5 e'⟩
          | bk => exact P5
          | rt d o => exact P5
        | rz c ρ4 => rw [q2] at P5; exact P5
        | fail => rw [q2] at P5; exact P5
    rcases hJ.yld B2 H2 i x H3 _ e2 L2.ex hy hd with ⟨rfl, fx⟩ | ⟨p, o, hp2, rfl, fx⟩ | ⟨p, xs, hp2, hp3, rfl, fx⟩
    · exact fin B2 (Ex.refl _) L2 fx
    · exact fin _ (Ex.new (L2.ex.nn hp2)) (L2.alloc hp2) fx
    · exact fin _ (Ex.new hp3) (L2.freezeT hp2 hp3) fx
  · have e : i = ds.length := by omega
    subst e
    rw [List.drop_length] at P2
    exact .inl ⟨hJ.stop B2 H2 _ e2 L2.ex (Nat.le_refl _), P2 σ2 B2 H2 (Ex.refl _) L2⟩
end
end Dt
namespace Dt
open PySem PySem.Spec PyProof.Rows L2
section
variable {X : Cx} {K : PySem.W.Frag}
def iI (C : Int → Int → Bool) (f : Int → Int → Int) : D → D → Option D
  | .int i, .int j => if C i j = true then some (.int (f i j)) else none
  | _, _ => none
def iB (f : Int → Int → Bool) : D → D → Option D
  | .int i, .int j => some (.bl (f i j))
  | _, _ => none
theorem opd_I {C : Int → Int → Prop} {c : Int → Int → Bool} {f : Int → Int → Int} (hc : ∀ i j, c i j = true → C i j) : OpD K (rI C fun i j => .int (f i j)) (iI c f) := by
  intro x y dx dy d B H Q ex fx fy h g
  unfold iI at h
  split at h
  · cases fx; cases fy
    split at h
    · rename_i hh
      injection h with h; subst h
      exact ⟨_, _, rfl, rfl, hc _ _ hh, g.1 _ (.int _)⟩
    · cases h
  · cases h
theorem opd_I0 {f : Int → Int → Int} : OpD K (rI0 fun i j => .int (f i j)) (iI (fun _ _ => true) f) := by
  intro x y dx dy d B H Q ex fx fy h g
  unfold iI at h
  split at h
  · cases fx; cases fy
    rw [if_pos rfl] at h
    injection h with h; subst h
    exact ⟨_, _, rfl, rfl, g.1 _ (.int _)⟩
  · cases h
theorem opd_B {f : Int → Int → Bool} : OpD K (rI0 fun i j => .bl (f i j)) (iB f) := by
  intro x y dx dy d B H Q ex fx fy h g
  unfold iB at h
  split at h
  · cases fx; cases fy
    injection h with h; subst h
    exact ⟨_, _, rfl, rfl, g.1 _ (.bl _)⟩
  · cases h
def mulOk (i j : Int) : Bool := decide (i.natAbs.log2 + j.natAbs.log2 < 100000000)
theorem mulOk_ok {i j : Int} (h : mulOk i j = true) : IntMulOk i j := by
  have b : ∀ x : Int, Builtin.Int.intBits x ≤ x.natAbs.log2 + 1 := fun x => by
    unfold Builtin.Int.intBits
    split <;> omega
  have h1 := b i
  have h2 := b j
  have h3 : i.natAbs.log2 + j.natAbs.log2 < 100000000 := of_decide_eq_true h
  have e : bitsLine = 134217728 := by decide
  unfold IntMulOk
  intro z
  rw [Bool.and_eq_true] at z
  have z2 := z.2
  unfold Builtin.Int.intTooBig at z2
  have z3 := of_decide_eq_true z2
  rw [e] at z3
  omega
theorem op_mulB : OpR X (binaryOp .Mult) (rI (fun i j => mulOk i j = true) fun i j => .int (i * j)) := opI fun _ _ _ _ _ _ _ hc q => mul_int q (mulOk_ok hc)
def divOk (_ j : Int) : Bool := decide (j ≠ 0)
def modOk (_ j : Int) : Bool := decide (j ≠ 0)
theorem op_modB : OpR X (binaryOp .Mod) (rI (fun i j => modOk i j = true) fun i j => .int (i.fmod j)) := opI fun _ _ _ _ _ _ _ hc q => mod_int' (of_decide_eq_true hc) q
def powOk (i j : Int) : Bool := decide (0 ≤ j) && decide (j ≤ 1000) && decide (i.natAbs < 2 ^ 64)
theorem op_powB : OpR X (binaryOp .Pow) (rI (fun i j => powOk i j = true) fun i j => .int (i ^ j.toNat)) := opI fun _ _ _ _ _ _ _ hc q => by
  unfold powOk at hc
  rw [Bool.and_eq_true, Bool.and_eq_true] at hc
  have h1 := of_decide_eq_true hc.1.1
  have h2 := of_decide_eq_true hc.1.2
  have h3 := of_decide_eq_true hc.2
  exact pow_int_small h1 (by omega) h3 q
def dSub : D → D → Option D := iI (fun _ _ => true) fun i j => i - j
def dDiv : D → D → Option D := iI divOk fun i j => i.fdiv j
def dMod : D → D → Option D := iI modOk fun i j => i.fmod j
def dPow : D → D → Option D := iI powOk fun i j => i ^ j.toNat
def dLt : D → D → Option D := iB fun i j => decide (i < j)
def dLe : D → D → Option D := iB fun i j => decide (i ≤ j)
def dGt : D → D → Option D := iB fun i j => decide (j < i)
def dGe : D → D → Option D := iB fun i j => decide (j ≤ i)
variable {W : WX} {e a b c : Expr} {pos : Pos} {f1 f2 f3 : M D}
theorem ev_sub (ha : EV X W a f1) (hb : EV X W b f2) : EV X W (.BinOp a .Sub b pos) (mBin dSub f1 f2) := ev_op op_sub opd_I0 ha hb
theorem ev_mod (ha : EV X W a f1) (hb : EV X W b f2) : EV X W (.BinOp a .Mod b pos) (mBin dMod f1 f2) := ev_op op_modB (opd_I fun _ _ h => h) ha hb
theorem ev_pow (ha : EV X W a f1) (hb : EV X W b f2) : EV X W (.BinOp a .Pow b pos) (mBin dPow f1 f2) := ev_op op_powB (opd_I fun _ _ h => h) ha hb
theorem ev_lt (ha : EV X W a f1) (hb : EV X W b f2) : EV X W (.Compare a [.Lt] [b] pos) (mBin dLt f1 f2) := ev_cmp op_lt opd_B ha hb
theorem ev_le (ha : EV X W a f1) (hb : EV X W b f2) : EV X W (.Compare a [.LtE] [b] pos) (mBin dLe f1 f2) := ev_cmp op_le opd_B ha hb
theorem ev_gt (ha : EV X W a f1) (hb : EV X W b f2) : EV X W (.Compare a [.Gt] [b] pos) (mBin dGt f1 f2) := ev_cmp op_gt opd_B ha hb
theorem ev_ge (ha : EV X W a f1) (hb : EV X W b f2) : EV X W (.Compare a [.GtE] [b] pos) (mBin dGe f1 f2) := ev_cmp op_ge opd_B ha hb
theorem et_lt (ha : EV X W a f1) (hb : EV X W b f2) : ET X W (.Compare a [.Lt] [b] pos) (mTest (mBin dLt f1 f2)) := et_cmp op_lt opd_B ha hb
theorem et_gt (ha : EV X W a f1) (hb : EV X W b f2) : ET X W (.Compare a [.Gt] [b] pos) (mTest (mBin dGt f1 f2)) := et_cmp op_gt opd_B ha hb
def dNeg : D → Option D
  | .int i => some (.int (-i))
  | _ => none
theorem ev_neg (ha : EV X W a f1) : EV X W (.UnaryOp .USub a pos) (mUn dNeg f1) := ev_un un_neg (fun x dx d B H Q ex fx h g => by
  cases fx with
  | int i => injection h with h; subst h; exact ⟨i, rfl, g.1 _ (.int _)⟩
  | _ => cases h) ha
def tooLong (n : Nat) : Bool := decide (10000000 < n)
def dAdd : D → D → Option D
  | .int i, .int j => some (.int (i + j))
  | .str x, .str y => if tooLong (x.length + y.length) = true then none else some (.str (x ++ y))
  | .lst xs, .lst ys => if tooLong (xs.length + ys.length) = true then none else some (.lst (xs ++ ys))
  | .tup xs, .tup ys => if tooLong (xs.length + ys.length) = true then none else some (.tup (xs ++ ys))
  | _, _ => none
theorem notLong {n : Nat} (h : ¬ tooLong n = true) : n ≤ sizeLine := by
  have h1 : n ≤ 10000000 := by
    unfold tooLong at h
    rw [decide_eq_true_iff] at h
    omega
  exact Nat.le_trans h1 (by decide)
theorem len_line' {n : Nat} (h : n ≤ 10000000) : n ≤ sizeLine := Nat.le_trans h (by decide)
theorem ev_add (ha : EV X W a f1) (hb : EV X W b f2) : EV X W (.BinOp a .Add b pos) (mBin dAdd f1 f2) := by
  refine ev_op (((op_add.or op_add_str).or op_catA).or op_cat) (fun x y dx dy d B H Q ex fx fy h g => ?_) ha hb
  cases fx with
  | int i =>
    cases fy with
    | int j => injection h with h; subst h; exact .inl (.inl (.inl ⟨i, j, rfl, rfl, g.1 _ (.int _)⟩))
    | _ => cases h
  | str x =>
    cases fy with
    | str y =>
      have h' : (if tooLong (x.length + y.length) = true then none else some (D.str (x ++ y))) = some d := h
      split at h'
      · cases h'
      · rename_i hl
        injection h' with h'; subst h'
        exact .inl (.inl (.inr ⟨x, y, rfl, rfl, notLong hl, g.1 _ (.str _)⟩))
    | _ => cases h
  | @lst l xs ds hl fs =>
    cases fy with
    | @lst l2 ys es hl2 fs2 =>
      have h' : (if tooLong (ds.length + es.length) = true then none else some (D.lst (ds ++ es))) = some d := h
      split at h'
      · cases h'
      · rename_i hz
        injection h' with h'; subst h'
        refine .inr ⟨l, l2, xs, ys, rfl, rfl, ex _ _ hl, ex _ _ hl2, by rw [fs.len, fs2.len]; exact notLong hz, fun p hp => g.2 p _ _ hp (.lst upd_same ?_)⟩
        exact (fs.append fs2).mono (Ex.new (ex.nn hp))
    | _ => cases h
  | @tup l xs ds hl fs =>
    cases fy with
    | @tup l2 ys es hl2 fs2 =>
      have h' : (if tooLong (ds.length + es.length) = true then none else some (D.tup (ds ++ es))) = some d := h
      split at h'
      · cases h'
      · rename_i hz
        injection h' with h'; subst h'
        refine .inl (.inr ⟨l, l2, xs, ys, rfl, rfl, ex.st hl, ex.st hl2, by rw [fs.len, fs2.len]; exact notLong hz, fun z => ?_, fun _ z => ?_, fun _ _ p hp => g.2 p _ _ hp (.tup (.inl (.inl upd_same)) ((fs.append fs2).mono (Ex.new (ex.nn hp))))⟩)
        · subst z; cases fs; exact g.1 _ (.tup hl2 fs2)
        · subst z; cases fs2
          rw [List.append_nil] at g
          exact g.1 _ (.tup hl fs)
    | _ => cases h
  | _ => cases h
def dMul : D → D → Option D
  | .int i, .int j => if mulOk i j = true then some (.int (i * j)) else none
  | .lst xs, .int k => if k < 10000 ∧ -10000 < k ∧ xs.length ≤ 1000 then some (.lst (List.replicate k.toNat xs).flatten) else none
  | _, _ => none
theorem Fzs.rep {K : PySem.W.Frag} {B : Hp} {vs : List V} {ds : List D} (h : Fzs K B vs ds) : ∀ k : Nat, Fzs K B (List.replicate k vs).flatten (List.replicate k ds).flatten
  | 0 => .nil
  | k + 1 => by
    rw [List.replicate_succ, List.replicate_succ, List.flatten_cons, List.flatten_cons]
    exact Fzs.append h (Fzs.rep h k)
theorem ev_mul (ha : EV X W a f1) (hb : EV X W b f2) : EV X W (.BinOp a .Mult b pos) (mBin dMul f1 f2) := by
  refine ev_op (op_mulB.or op_rep) (fun x y dx dy d B H Q ex fx fy h g => ?_) ha hb
  cases fx with
  | int i =>
    cases fy with
    | int j =>
      have h' : (if mulOk i j = true then some (D.int (i * j)) else none) = some d := h
      split at h'
      · rename_i hm
        injection h' with h'; subst h'; exact .inl ⟨i, j, rfl, rfl, hm, g.1 _ (.int _)⟩
      · cases h'
    | _ => cases h
  | @lst l xs ds hl fs =>
    cases fy with
    | int k =>
      have h' : (if k < 10000 ∧ -10000 < k ∧ ds.length ≤ 1000 then some (D.lst (List.replicate k.toNat ds).flatten) else none) = some d := h
      split at h'
      · rename_i hk
        injection h' with h'; subst h'
        refine .inr ⟨l, k, xs, rfl, rfl, ex _ _ hl, by omega, by omega, ?_, fun p hp => g.2 p _ _ hp (.lst upd_same ((fs.rep k.toNat).mono (Ex.new (ex.nn hp))))⟩
        have h1 : xs.length ≤ 1000 := by rw [fs.len]; exact hk.2.2
        have h2 : k.toNat ≤ 10000 := by omega
        exact len_line' (Nat.le_trans (Nat.mul_le_mul h1 h2) (by decide))
      · cases h'
    | _ => cases h
  | _ => cases h
def shp (d : D) : Bool := SeqAt.shaped d.py
def dEq : D → D → Option D
  | .int i, .int j => some (.bl (i == j))
  | .str i, .str j => some (.bl (i == j))
  | d, e => if shp d = true ∧ shp e = true then some (.bl (PyData.eqv d.py e.py)) else none
def dNe : D → D → Option D
  | .int i, .int j => some (.bl (!(i == j)))
  | .str i, .str j => some (.bl (!(i == j)))
  | d, e => if shp d = true ∧ shp e = true then some (.bl (!PyData.eqv d.py e.py)) else none
theorem opd_eq : OpD K (fun x y H Q => rEq x y H Q ∨ rEqD K x y H Q) dEq := by
  intro x y dx dy d B H Q ex fx fy h g
  unfold dEq at h
  split at h
  · cases fx; cases fy
    injection h with h; subst h
    exact .inl ⟨rfl, by rw [dec_int]; exact g.1 _ (.bl _)⟩
  · cases fx; cases fy
    injection h with h; subst h
    exact .inl ⟨rfl, by rw [dec_str]; exact g.1 _ (.bl _)⟩
  · split at h
    · rename_i hh
      injection h with h; subst h
      exact .inr ⟨_, _, fx.dp ex (D.nd_lay (SeqAt.canLay_of_shaped hh.1)), fy.dp ex (D.nd_lay (SeqAt.canLay_of_shaped hh.2)), hh.1, hh.2, g.1 _ (.bl _)⟩
    · cases h
theorem opd_ne : OpD K (fun x y H Q => rNe x y H Q ∨ rNeD K x y H Q) dNe := by
  intro x y dx dy d B H Q ex fx fy h g
  unfold dNe at h
  split at h
  · cases fx; cases fy
    injection h with h; subst h
    exact .inl ⟨rfl, by rw [dec_int]; exact g.1 _ (.bl _)⟩
  · cases fx; cases fy
    injection h with h; subst h
    exact .inl ⟨rfl, by rw [dec_str]; exact g.1 _ (.bl _)⟩
  · split at h
    · rename_i hh
      injection h with h; subst h
      exact .inr ⟨_, _, fx.dp ex (D.nd_lay (SeqAt.canLay_of_shaped hh.1)), fy.dp ex (D.nd_lay (SeqAt.canLay_of_shaped hh.2)), hh.1, hh.2, g.1 _ (.bl _)⟩
    · cases h
theorem ev_eq (hu : X.A.units + 64 < cLine) (ha : EV X W a f1) (hb : EV X W b f2) : EV X W (.Compare a [.Eq] [b] pos) (mBin dEq f1 f2) := ev_cmp (op_eq.or (op_eqD hu)) opd_eq ha hb
theorem et_eq (hu : X.A.units + 64 < cLine) (ha : EV X W a f1) (hb : EV X W b f2) : ET X W (.Compare a [.Eq] [b] pos) (mTest (mBin dEq f1 f2)) := et_cmp (op_eq.or (op_eqD hu)) opd_eq ha hb
theorem ev_ne (hu : X.A.units + 64 < cLine) (ha : EV X W a f1) (hb : EV X W b f2) : EV X W (.Compare a [.NotEq] [b] pos) (mBin dNe f1 f2) := ev_cmp (op_ne.or (op_neD hu)) opd_ne ha hb
theorem et_ne (hu : X.A.units + 64 < cLine) (ha : EV X W a f1) (hb : EV X W b f2) : ET X W (.Compare a [.NotEq] [b] pos) (mTest (mBin dNe f1 f2)) := et_cmp (op_ne.or (op_neD hu)) opd_ne ha hb
def dIs : D → D → Option D
  | .bl i, .bl j => some (.bl (decide (i = j)))
  | .non, .non => some (.bl true)
  | .lst _, .non => some (.bl false)
  | .tup _, .non => some (.bl false)
  | .int _, .non => some (.bl false)
  | .str _, .non => some (.bl false)
  | .key _, .non => some (.bl false)
  | _, _ => none
def dIsNot : D → D → Option D
  | .bl i, .bl j => some (.bl (!decide (i = j)))
  | .non, .non => some (.bl false)
  | .lst _, .non => some (.bl true)
  | .tup _, .non => some (.bl true)
  | .int _, .non => some (.bl true)
  | .str _, .non => some (.bl true)
  | .key _, .non => some (.bl true)
  | _, _ => none
def flatD : D → Bool
  | .non => true
  | .bl _ => true
  | .int _ => true
  | .str _ => true
  | _ => false
def eqF : D → D → Bool
  | .non, .non => true
  | .bl a, .bl b => a == b
  | .bl a, .int b => (if a then 1 else 0) == b
  | .int a, .bl b => a == (if b then 1 else 0)
  | .int a, .int b => a == b
  | .str a, .str b => a == b
  | _, _ => false
theorem Fz.flat {K : PySem.W.Frag} {B : Hp} {v : V} {d : D} (h : Fz K B v d) (f : flatD d = true) : flatV v = true := by
  cases h <;> first | rfl | cases f
theorem Fz.eqF {K : PySem.W.Frag} {B : Hp} {v w : V} {d e : D} (h : Fz K B v d) (g : Fz K B w e) (f : flatD d = true) (f' : flatD e = true) : eqV v w = eqF d e := by
  cases h <;> cases g <;> first | rfl | (exfalso; exact Bool.false_ne_true f) | (exfalso; exact Bool.false_ne_true f')
theorem Fzs.flat {K : PySem.W.Frag} {B : Hp} : ∀ {vs : List V} {ds : List D}, Fzs K B vs ds → ds.all flatD = true → vs.all flatV = true
  | _, _, .nil, _ => rfl
  | _, _, .cons h hs, f => by
    rw [List.all_cons, Bool.and_eq_true] at f ⊢
    exact ⟨h.flat f.1, Fzs.flat hs f.2⟩
theorem Fzs.inF {K : PySem.W.Frag} {B : Hp} {x : V} {dx : D} (fx : Fz K B x dx) (hx : flatD dx = true) : ∀ {vs : List V} {ds : List D}, Fzs K B vs ds → ds.all flatD = true → inV x vs = ds.any (fun y => Dt.eqF y dx)
  | _, _, .nil, _ => rfl
  | _, _, .cons h hs, f => by
    rw [List.all_cons, Bool.and_eq_true] at f
    have ih := Fzs.inF fx hx hs f.2
    unfold inV at ih ⊢
    rw [List.any_cons, List.any_cons, ih, h.eqF fx f.1 hx]
def dIn (neg : Bool) : D → D → Option D := fun x s => match s with
  | .lst ds => if flatD x = true ∧ ds.all flatD = true then some (.bl (if neg then !ds.any (fun y => eqF y x) else ds.any (fun y => eqF y x))) else none
  | .tup ds => if flatD x = true ∧ ds.all flatD = true then some (.bl (if neg then !ds.any (fun y => eqF y x) else ds.any (fun y => eqF y x))) else none
  | _ => none
theorem opd_in {neg : Bool} : OpD K (rIn K neg) (dIn neg) := by
  intro x y dx dy d B H Q ex fx fy h g
  cases fy with
  | @lst l ys ds hl fs =>
    have h' : (if flatD dx = true ∧ ds.all flatD = true then some (D.bl (if neg then !ds.any (fun y => eqF y dx) else ds.any (fun y => eqF y dx))) else none) = some d := h
    split at h'
    · rename_i hh
      injection h' with h'; subst h'
      refine ⟨l, ys, rfl, .inl (.inl (.inl (ex _ _ hl))), fx.flat hh.1, fs.flat hh.2, ?_⟩
      rw [fs.inF fx hh.1 hh.2]
      exact g.1 _ (.bl _)
    · cases h'
  | @tup l ys ds hl fs =>
    have h' : (if flatD dx = true ∧ ds.all flatD = true then some (D.bl (if neg then !ds.any (fun y => eqF y dx) else ds.any (fun y => eqF y dx))) else none) = some d := h
    split at h'
    · rename_i hh
      injection h' with h'; subst h'
      refine ⟨l, ys, rfl, .inr (ex.st hl), fx.flat hh.1, fs.flat hh.2, ?_⟩
      rw [fs.inF fx hh.1 hh.2]
      exact g.1 _ (.bl _)
    · cases h'
  | _ => cases h
theorem ev_in (ha : EV X W a f1) (hb : EV X W b f2) (hm : behindInMarks .In b = false := by rfl) : EV X W (.Compare a [.In] [b] pos) (mBin (dIn false) f1 f2) := ev_cmp op_in_seq opd_in ha hb hm
theorem et_notin (ha : EV X W a f1) (hb : EV X W b f2) (hm : behindInMarks .NotIn b = false := by rfl) : ET X W (.Compare a [.NotIn] [b] pos) (mTest (mBin (dIn true) f1 f2)) := et_cmp op_notIn_seq opd_in ha hb hm
def dIx : D → D → Option D
  | .lst ds, .int i => atI ds i
  | .tup ds, .int i => atI ds i
  | .scr ns, .int i => (atI ns i).map D.int
  | .str x, .int i => if tooLong x.length = true then none else (atI x.cps.toList i).map fun c => D.str ⟨#[c]⟩
  | _, _ => none
theorem Fzs.atI {K : PySem.W.Frag} {B : Hp} {vs : List V} {ds : List D} {i : Int} {d : D} (h : Fzs K B vs ds) (e : L2.atI ds i = some d) : ∃ v, L2.atI vs i = some v ∧ Fz K B v d := by
  unfold L2.atI at e ⊢
  rw [h.len]
  cases q : ixN ds.length i with
  | none => rw [q] at e; cases e
  | some j =>
    rw [q] at e
    exact h.get e
theorem opd_ix : OpD K (rIx K) dIx := by
  intro x y dx dy d B H Q ex fx fy h g
  cases fx with
  | @lst l xs ds hl fs =>
    cases fy with
    | int i =>
      obtain ⟨v, h1, h2⟩ := fs.atI (show L2.atI ds i = some d from h)
      exact .inl ⟨l, xs, i, v, rfl, rfl, .inl (.inl (ex _ _ hl)), h1, g.1 _ h2⟩
    | _ => cases h
  | @tup l xs ds hl fs =>
    cases fy with
    | int i =>
      obtain ⟨v, h1, h2⟩ := fs.atI (show L2.atI ds i = some d from h)
      exact .inr (.inl ⟨l, xs, i, v, rfl, rfl, ex.st hl, h1, g.1 _ h2⟩)
    | _ => cases h
  | @scr l ns hl =>
    cases fy with
    | int i =>
      have h' : (L2.atI ns i).map D.int = some d := h
      cases q : L2.atI ns i with
      | none => rw [q] at h'; cases h'
      | some n =>
        rw [q] at h'
        injection h' with h'; subst h'
        refine .inl ⟨l, ns.map V.int, i, .int n, rfl, rfl, ex.sl hl, ?_, g.1 _ (.int n)⟩
        unfold L2.atI at q ⊢
        rw [List.length_map]
        cases q2 : ixN ns.length i with
        | none => rw [q2] at q; cases q
        | some j =>
          rw [q2] at q
          have q' : ns[j]? = some n := q
          show (ns.map V.int)[j]? = some (V.int n)
          rw [List.getElem?_map, q']; rfl
    | _ => cases h
  | str x =>
    cases fy with
    | int i =>
      have h' : (if tooLong x.length = true then none else (L2.atI x.cps.toList i).map fun c => D.str ⟨#[c]⟩) = some d := h
      split at h'
      · cases h'
      · rename_i hz
        cases q : L2.atI x.cps.toList i with
        | none => rw [q] at h'; cases h'
        | some c =>
          rw [q] at h'
          injection h' with h'; subst h'
          exact .inr (.inr ⟨x, i, c, rfl, rfl, notLong hz, q, g.1 _ (.str _)⟩)
    | _ => cases h
  | _ => cases h
theorem ev_item (ha : EV X W a f1) (hb : EV X W b f2) (hs : PlainIx b := by exact fun _ _ => rfl) : EV X W (.Subscript a b pos) (mBin dIx f1 f2) := ev_ix ix_seq opd_ix ha hb hs
end
end Dt
namespace Dt
open PySem PySem.Spec PyProof.Rows L2
structure Quiet0 (P : Program) (base : Heap) (A : Around) : Prop where
  g : A.guards = some []
  s : base.NoSeer
  t : P.given.tree = none
structure Quiet (P : Program) (base : Heap) (A : Around) : Prop extends Quiet0 P base A where
  f : ∃ env l, A.frames = some (env :: l) ∧ env.scope.isGenerator = false ∧ env.scope.isCoroutine = false ∧ env.builtins = builtinsNs ∧ env.globals = mainGlobals
theorem op_fdivB {X : Cx} {k : Nat} (gd : Quiet X.prog X.base X.A) (hr : Room k X.A) (hk : 32 ≤ k) : OpR X (binaryOp .FloorDiv) (rI (fun i j => divOk i j = true) fun i j => .int (i.fdiv j)) := by
  intro pins s σ H x y v u Q I rx ry h
  obtain ⟨i, j, rfl, rfl, hc, q⟩ := h
  obtain ⟨t, rfl⟩ := rx
  obtain ⟨t', rfl⟩ := ry
  obtain ⟨env, l, f1, f2, f3, f4, f5⟩ := gd.f
  have hd := hr.dp
  exact floordiv_int (of_decide_eq_true hc) ⟨.int (i.fdiv j), H, I.tok _, ⟨_, rfl⟩, q⟩ (.inr (PySem.PylongRoom.of I.nolimit (by show X.A.depth + 100 < _; omega) (PySem.SeerAt.of (gd.s.keeps I.bk) gd.t f1 f2 f3 f4 f5)))
theorem ev_fdiv {X : Cx} {W : WX} {k : Nat} {a b : Expr} {pos : Pos} {f1 f2 : M D} (gd : Quiet X.prog X.base X.A) (hr : Room k X.A) (hk : 32 ≤ k) (ha : EV X W a f1) (hb : EV X W b f2) : EV X W (.BinOp a .FloorDiv b pos) (mBin dDiv f1 f2) := ev_op (op_fdivB gd hr hk) (opd_I fun _ _ h => h) ha hb
structure FnG (P : Program) (w : World) (K : PySem.W.Frag) (mg : Str → Option Value) (base : Heap) (k : Nat) (f : Addr) (fd : FuncData) (ps : List Str) (sp : Sp) : Prop where
  many : ∀ vs H Q E, sp vs H Q E → vs.length = ps.length
  go : ∀ {A : Around} {o : List PySem.Env} {s : Shared} {H : Hp} {g : Args} {us : List Value} {vs : List V} {Q : VK} {E : XK}, Quiet0 P base A → Room k A → Env0 P w K mg base A o s H →
    BindsTo s fd g (ps.zip us) → Vals vs us → sp vs H Q E → codeAny (model P w) A (.call (.ref f) g) (CR (L2.CX P w) o P w H s Q E) s
theorem FnG.imp {P : Program} {w : World} {K : PySem.W.Frag} {mg : Str → Option Value} {base : Heap} {k : Nat} {f : Addr} {fd : FuncData} {ps : List Str} {sp tp : Sp} (F : FnG P w K mg base k f fd ps sp) (h : ∀ vs H Q E, tp vs H Q E → sp vs H Q E) : FnG P w K mg base k f fd ps tp :=
  ⟨fun _ _ _ _ z => F.many _ _ _ _ (h _ _ _ _ z), fun q r e b v z => F.go q r e b v (h _ _ _ _ z)⟩
theorem fng_of {P : Program} {w : World} {K : PySem.W.Frag} {mg : Str → Option Value} {base : Heap} {x qual : Str} {st : Stmt} {f : Addr} {fd : FuncData} {N ps : List Str} {k : Nat} {sp : Sp} (F : Fun K x qual st f fd) (S : FnScope N ps (defScope st)) (many : ∀ vs H Q E, sp vs H Q E → vs.length = ps.length)
    (hb : ∀ (c : Value) (A : Around) (o : List PySem.Env) (s : Shared) (H : Hp) (vs : List V) (Q : VK) (E : XK), Quiet P base (A.deeper (envOfC qual (defScope st) s.heap.objs.size f c)) → Room k (A.deeper (envOfC qual (defScope st) s.heap.objs.size f c)) → sp vs H Q E →
      ∃ t, PSs (cxOf (L2.CX P w) P w K mg base N qual (defScope st) f c A o s H E) (defBody st) t ∧ t { nx := fun _ Z => Q .non Z, rt := Q } (start N vs) H) : FnG P w K mg base (k + 1) f fd ps sp := by
  obtain ⟨_, _, _, _, _, _, c, _, _, rfl, look, code⟩ := F.ex
  refine ⟨many, @fun A o s H g us vs Q E quiet room e0 bnd rv spec => ?_⟩
  have kin : K.In s.heap := e0.mod.kin.keeps fun b z q => (e0.bs b z q).1
  have nol : s.heap.NoLimit := e0.mod.nolimit.keeps fun b z q => (e0.bs b z q).1
  have kd : ∀ y ∈ ps.zip us, (defScope st).names.lookup y.1 = some .local ∨ ((defScope st).names.lookup y.1 = some .cell ∧ ((cellsFrom (s.heap.objs.size + 1) (defScope st).names []).lookup y.1).isSome = true) := by
    rintro ⟨n, v⟩ hy
    exact (S.par n (List.of_mem_zip hy).1).imp id fun q => ⟨q, PySem.W.cellsFrom_some _ _ _ (.inl q)⟩
  refine codeAny_call_function room.depth (kin _ _ look) rfl S.co S.gen rfl (PySem.W.codeRec_of kin code) (bnd _ _ _ _ (wpAny_newFunctionEnv_cells S.kind kd ?_))
  rintro _ rfl s1 ic
  refine ⟨nol.keeps ic.toInCall.keep, codeAny_func ?_⟩
  obtain ⟨t, ht, hq⟩ := hb c A o s H vs Q E ⟨⟨quiet.g, quiet.s, quiet.t⟩, _, _, Around.frames_deeper e0.frames, S.gen, S.co, rfl, rfl⟩ (room.deeper _) spec
  refine wpAny_mono (ht.run [] s1 _ H _ (inv_start (CX := L2.CX P w) (E := E) S room.hd e0 (many _ _ _ _ spec) rv ic) hq) ?_ (fun _ _ z => z)
  rintro (_ | _ | _ | u) z hz
  · obtain ⟨_, Z, J, q⟩ := hz
    exact ⟨.non, Z, J.os, J.bare, J.base, J.hok, rfl, q⟩
  · obtain ⟨_, _, _, q⟩ := hz
    exact q.elim
  · obtain ⟨_, _, _, q⟩ := hz
    exact q.elim
  · obtain ⟨v, _, Z, J, r, q⟩ := hz
    exact ⟨v, Z, J.os, J.bare, J.base, J.hok, r, q⟩
section
variable {X : Cx} {k : Nat} {f : Addr} {fd : FuncData} {ps : List Str} {sp : Sp} {E : St → XK} {x : Str} {p pos : Pos} {e : Expr} {es : List Expr} {t : TA}
theorem pe_callG (F : FnG X.prog X.w X.K X.mg X.base k f fd ps sp) (quiet : Quiet X.prog X.base X.A) (room : Room k X.A) (gl : Gl X x) (m : X.mg x = some (.ref f)) (kp : PySem.W.keepIn X.K (.ref f) = true) (bnd : Binds X.K fd ps []) (pass : ∀ σ, PassesAt (L2.CX X.prog X.w) X σ (E σ))
    (args : PA X (e :: es) t) (nd : (x == ("__debug__" : Str)) = false := by decide) (h1 : starEach (e :: es) X.env = (false, eval e X.env) :: starEach es X.env := by exact star_un rfl) (h2 : (backTo pos (starEach es X.env)).any (·.1) = false := by rfl) :
    PE X (.Call (.Name x p) (e :: es) [] pos) (tCallS sp E t) := by
  constructor
  intro pins s σ H Q I h
  refine wpAny_Call_Name_kw (ld_glob I gl m (PySem.W.callWith_K (h₀ := X.base) I.ok.mod.kin kp (thn (args.run pos pins s σ H _ I h) ?_) h1 h2) nd)
  rintro us s1 ⟨vs, H1, J, rv, q⟩
  refine ⟨J.kIn, ?_⟩
  have many : us.length = ps.length := rv.length ▸ F.many _ _ _ _ q
  have b0 := bnd s1 us J.kIn (by simpa using many)
  rw [List.append_nil] at b0
  refine wpAny_call (codeAny_mono (F.go quiet.toQuiet0 room J.env0 b0 rv q) ?_)
  rintro (err | (_ | _ | _ | u)) z hz
  · exact pass σ pins H1 s1 err z J hz
  · exact hz.elim
  · exact hz.elim
  · exact hz.elim
  · exact J.after hz
end
section
variable {P : Program} {w : World} {K : PySem.W.Frag} {mg mb : Str → Option Value} {k : Nat} {fa a : Addr} {fd : FuncData} {x : Str} {sp : Sp} {s : Shared} {vs : List Value} {ns : List Int}
abbrev Done (s : Shared) (r : Result) (z : Shared) : Prop := r = .ok (.ret (.bool true)) ∧ OldK s.heap z.heap ∧ z.os = s.os ∧ AllBare z.gens
abbrev scriptObj (vs : List Value) : Obj := { cls := .type "list", data := .seq vs.toArray }
theorem top_go (kin : K.In s.heap) (glb : s.heap.Ns mainGlobals mg) (blt : s.heap.Ns builtinsNs mb) (boot : ∀ x : Str, x ≠ "__name__" → mb x = bootBuiltins x) (nol : s.heap.NoLimit) (seer : s.heap.NoSeer) (tree : P.given.tree = none) (gens : s.gens = #[])
    (scr : s.heap.get? a = some (scriptObj vs)) (room : Room k callerA) (F : ∀ b : Heap, K.In b → b.Ns mainGlobals mg → FnG P w K mg b k fa fd [x] sp) (bnd : ∀ (s : Shared) (u : Value), BindsTo s fd ⟨[u], []⟩ [(x, u)])
    (H : Hp) (spec : sp [.ref a] H (fun v _ => v = .bl true) fun _ _ _ => False) (only : Only H) (hok : HOk P w H s.heap) (at_ : ∀ b, H b ≠ none → b = a) (out : H a ≠ none → K.lookup a = none) :
    codeAny (model P w) callerA (.call (.ref fa) ⟨[.ref a], []⟩) (Done s) s := by
  have here : ∀ {b : Addr} {z : HO}, H b = some z → b = a := fun {b z} q => at_ b (by rw [q]; exact Option.some_ne_none z)
  have free : ∀ {b : Addr} {z : Obj}, K.lookup b = some z → H b = none := by
    intro b z q
    match e : H b with
    | none => rfl
    | some y =>
      have i := here e
      rw [i] at e q
      rw [out (by rw [e]; exact Option.some_ne_none y)] at q
      cases q
  have dict : ∀ {b : Addr} {m : Str → Option Value}, s.heap.Ns b m → (hidT s.heap H).Ns b m := by
    rintro b m ⟨z, es, ep, q, dz, r⟩
    refine ⟨z, es, ep, hidT_get q ?_, dz, r⟩
    match e : H b with
    | none => rfl
    | some y =>
      rw [here e, scr] at q
      injection q with q
      rw [← q] at dz
      cases dz
  have nos : (hidT s.heap H).NoSeer := by
    obtain ⟨⟨m1, a1, b1⟩, ⟨m2, a2, b2⟩, ⟨m3, a3, b3⟩, m4, bm, ob, a4, b4, c4, d4, e4⟩ := seer
    refine ⟨⟨m1, dict a1, b1⟩, ⟨m2, dict a2, b2⟩, ⟨m3, dict a3, b3⟩, m4, bm, ob, dict a4, b4, hidT_get c4 ?_, d4, e4⟩
    match e : H bm with
    | none => rfl
    | some y =>
      rw [here e, scr] at c4
      injection c4 with c4
      rw [← c4] at d4
      injection d4 with d4
      exact absurd d4 (by decide)
  have kb : K.In (hidT s.heap H) := fun b z q => hidT_get (kin b z q) (free q)
  obtain ⟨mc, n1, n2⟩ := nol
  have e0 : Env0 P w K mg (hidT s.heap H) callerA [] s H :=
    ⟨rfl, ⟨kb, dict glb, ⟨mb, dict blt, boot⟩, ⟨mc, dict n1, n2⟩⟩, fun _ _ q => of_hidT q, Nat.le_of_eq (hidT_size _ _), trivial, (fun b q => absurd (show b ∈ ([] : List Addr) from q) List.not_mem_nil), hok, .of_eq gens⟩
  refine codeAny_mono ((F _ kb (dict glb)).go (us := [.ref a]) (vs := [.ref a]) ⟨rfl, nos, tree⟩ room e0 (bnd s (.ref a)) (.cons rfl .nil) spec) ?_
  rintro (err | (_ | _ | _ | u)) z hz
  · obtain ⟨_, _, _, _, _, _, _, _, _, _, _, _, no⟩ := hz
    exact no.elim
  · exact hz.elim
  · exact hz.elim
  · exact hz.elim
  · obtain ⟨v, Z, os, bare, un, okZ, rv, rfl⟩ := hz
    have : u = Value.bool true := rv
    subst this
    refine ⟨rfl, OldK.of_keep fun b z0 q => ?_, os, bare⟩
    match e : H b with
    | none => exact un.keep b z0 q e (fun m => absurd (show b ∈ ([] : List Addr) from m) List.not_mem_nil) (fun m => absurd (show b ∈ ([] : List Addr) from m) List.not_mem_nil)
    | some y =>
      rcases only b with n | ⟨ob, xs, n⟩
      · rw [n] at e; cases e
      · have g1 := (hok b _ n).1
        have g2 := (okZ b _ (un.frzs b ob _ n)).1
        rw [q] at g1
        injection g1 with g1
        rw [g1]; exact g2
theorem top_call (kin : K.In s.heap) (glb : s.heap.Ns mainGlobals mg) (blt : s.heap.Ns builtinsNs mb) (boot : ∀ x : Str, x ≠ "__name__" → mb x = bootBuiltins x) (nol : s.heap.NoLimit) (seer : s.heap.NoSeer) (tree : P.given.tree = none) (gens : s.gens = #[])
    (scr : s.heap.get? a = some (scriptObj vs)) (inz : IntsAre vs ns) (few : ns.length ≤ sizeLine) (room : Room k callerA) (F : ∀ b : Heap, K.In b → b.Ns mainGlobals mg → FnG P w K mg b k fa fd [x] sp) (bnd : ∀ (s : Shared) (u : Value), BindsTo s fd ⟨[u], []⟩ [(x, u)])
    (spec : ∀ H : Hp, SqL K H a (ns.map V.int) → sp [.ref a] H (fun v _ => v = .bl true) fun _ _ _ => False) :
    codeAny (model P w) callerA (.call (.ref fa) ⟨[.ref a], []⟩) (Done s) s := by
  have rv := vals_ints inz
  have many := inz.length
  match e : K.lookup a with
  | some z =>
    have q := kin a z e
    rw [scr] at q
    injection q with q
    subst q
    refine top_go kin glb blt boot nol seer tree gens scr room F bnd (fun _ => none) (spec _ (.inr ⟨_, vs.toArray, _, e, rfl, rfl, rfl, ?_, ?_⟩)) (fun _ => .inl rfl) (fun _ _ z => nomatch z) (fun _ z => (z rfl).elim) (fun z => (z rfl).elim)
    · rw [List.size_toArray, many]; exact few
    · simpa using rv
  | none =>
    have yes : ∀ {b : Addr}, b = a → (fun b => if b = a then some (HO.frz (scriptObj vs) (.lst (ns.map V.int))) else none) b = some (HO.frz (scriptObj vs) (.lst (ns.map V.int))) := fun q => if_pos q
    have nay : ∀ {b : Addr}, b ≠ a → (fun b => if b = a then some (HO.frz (scriptObj vs) (.lst (ns.map V.int))) else none) b = none := fun q => if_neg q
    generalize (fun b => if b = a then some (HO.frz (scriptObj vs) (.lst (ns.map V.int))) else none) = H at yes nay
    have isA : ∀ b, H b ≠ none → b = a := fun b z => Classical.byContradiction fun n => z (nay n)
    refine top_go kin glb blt boot nol seer tree gens scr room F bnd H (spec H (.inl (.inr ⟨_, yes rfl⟩))) (fun b => ?_) (fun b z q => ?_) isA (fun _ => e)
    · by_cases n : b = a
      · exact .inr ⟨_, _, yes n⟩
      · exact .inl (nay n)
    · have n : b = a := isA b (by rw [q]; exact Option.some_ne_none z)
      rw [yes n] at q
      injection q with q
      subst q; subst n
      exact ⟨scr, by rw [List.length_map]; exact few, vs, _, rv, scr⟩
end
end Dt
namespace Dt
open PySem PySem.Spec PyProof.Rows L2
structure Cr (A : Addr → Prop) (B H B' H' : Hp) : Prop where
  ex : Ex B' H'
  exB : Ex B B'
  kept : ∀ a o, H a = some o → ¬ A a → H' a = some o
  hid : ∀ a, B a = none → Ct H a → ¬ A a → B' a = none
  there : ∀ a, H a ≠ none → H' a ≠ none
theorem Cr.keeps {K : PySem.W.Frag} {F : Fr} {ρ : Env} {σ : St} {B H B' H' : Hp} {A : Addr → Prop} (L : Lv K F ρ σ B H) (c : Cr A B H B' H') (no : ∀ b, A b → ¬ OwS K B H ρ σ b) : ∀ a, OwS K B H ρ σ a → B' a = none ∧ ∀ o, H a = some o → H' a = some o := fun a w =>
  ⟨c.hid a (L.hidOw w).1 (L.hidOw w).2 fun z => no a z w, fun o q => c.kept a o q fun z => no a z w⟩
theorem Lv.callN {K : PySem.W.Frag} {F : Fr} {ρ : Env} {σ : St} {B H B' H' : Hp} {A : Addr → Prop} (L : Lv K F ρ σ B H) (c : Cr A B H B' H') (hA : ∀ b, A b → F.A b ∨ F.H0 b = none) (no : ∀ b, A b → ¬ OwS K B H ρ σ b) : Lv K F ρ σ B' H' := by
  refine L.move c.ex c.exB (c.keeps L no) (fun a o e n => ?_) (fun a e => c.there a (L.there a e)) (fun a e n k => ?_)
  · refine c.kept a o (L.kept a o e n) fun z => ?_
    rcases hA a z with q | q
    · exact n q
    · rw [q] at e; cases e
  · refine c.hid a (L.hid a e n k) (n.to fun o q => L.kept a o q k) fun z => ?_
    rcases hA a z with q | q
    · exact k q
    · exact n.ne q
inductive Rf where
  | ok (d : D) (o : Ob) (out : D)
  | rz (c : Str)
  | fail
inductive Args (K : PySem.W.Frag) (B H : Hp) (a : Addr) : Option Nat → List V → List D → Prop
  | nil : Args K B H a none [] []
  | fz {v : V} {d : D} {vs : List V} {ds : List D} : Fz K B v d → Args K B H a none vs ds → Args K B H a none (v :: vs) (d :: ds)
  | io {d : D} {vs : List V} {ds : List D} : Ow K B H a d → Args K B H a none vs ds → Args K B H a (some 0) (.ref a :: vs) (d :: ds)
  | fzS {j : Nat} {v : V} {d : D} {vs : List V} {ds : List D} : Fz K B v d → Args K B H a (some j) vs ds → Args K B H a (some (j + 1)) (v :: vs) (d :: ds)
def initS : Option Nat → List D → List Slot
  | _, [] => []
  | none, d :: r => .fz d :: initS none r
  | some 0, d :: r => .io d :: initS none r
  | some (j + 1), d :: r => .fz d :: initS (some j) r
def initE (m : Option Nat) (n : Nat) (ds : List D) : Env := initS m ds ++ List.replicate (n - ds.length) .un
def fin (m : Option Nat) (d : D) (o : Ob) (ρ : Env) : Rf := match m with
  | none => .ok d o .non
  | some j => match ρ[j]? with
    | some (.io out) => .ok d o out
    | _ => .fail
def runF (m : Option Nat) (n : Nat) (fb : M Fl) (ds : List D) : Rf := match fb (initE m n ds) with
  | .ok .nx ρ => fin m .non .ff ρ
  | .ok (.rt d o) ρ => fin m d o ρ
  | .rz c _ => .rz c
  | _ => .fail
def frP (m : Option Nat) (a : Addr) : List (Option Addr) := match m with
  | none => []
  | some j => List.replicate j none ++ [some a]
def ioA (m : Option Nat) (a : Addr) (b : Addr) : Prop := m ≠ none ∧ b = a
def frOf (m : Option Nat) (a : Addr) (B H : Hp) : Fr := ⟨B, H, ioA m a, frP m a⟩
def RV (K : PySem.W.Frag) (H B' H' : Hp) (a : Addr) (v : V) (d : D) : Ob → Prop
  | .tt => ∃ p, v = .ref p ∧ Ow K B' H' p d ∧ H p = none
  | .ff => Fz K B' v d
  | .dp m => ∃ S, Tr K B' H' m v d S ∧ S.Nodup ∧ ∀ p ∈ S, H p = none
  | .al => v = .ref a
def spF (K : PySem.W.Frag) (mg : Str → Option Value) (n : Nat) (m : Option Nat) (g : List D → Rf) : Sp := fun vs H Q E => ∃ (B : Hp) (ds : List D) (a : Addr), Ex B H ∧ Args K B H a m vs ds ∧ vs.length = n ∧
  match g ds with
  | .ok d o out => ∀ v B' H', Cr (ioA m a) B H B' H' → (m ≠ none → Ow K B' H' a out) → RV K H B' H' a v d o → Q v H'
  | .rz c => ∀ B' H', Cr (ioA m a) B H B' H' → E ((mg c).getD .none) none H'
  | .fail => False
section
variable {K : PySem.W.Frag} {B H : Hp} {a : Addr}
theorem Args.len : ∀ {m : Option Nat} {vs : List V} {ds : List D}, Args K B H a m vs ds → vs.length = ds.length
  | _, _, _, .nil => rfl
  | _, _, _, .fz _ r => by rw [List.length_cons, List.length_cons, Args.len r]
  | _, _, _, .io _ r => by rw [List.length_cons, List.length_cons, Args.len r]
  | _, _, _, .fzS _ r => by rw [List.length_cons, List.length_cons, Args.len r]
theorem initS_len : ∀ (m : Option Nat) (ds : List D), (initS m ds).length = ds.length
  | none, [] => rfl
  | some 0, [] => rfl
  | some (_ + 1), [] => rfl
  | none, d :: r => by show (initS none r).length + 1 = _; rw [initS_len none r]; rfl
  | some 0, d :: r => by show (initS none r).length + 1 = _; rw [initS_len none r]; rfl
  | some (j + 1), d :: r => by show (initS (some j) r).length + 1 = _; rw [initS_len (some j) r]; rfl
theorem Args.getF : ∀ {m : Option Nat} {vs : List V} {ds : List D} {i : Nat} {d : D}, Args K B H a m vs ds → (initS m ds)[i]? = some (.fz d) → ∃ v, vs[i]? = some v ∧ Fz K B v d
  | _, _, _, _, _, .nil, e => by simp [initS] at e
  | _, _, _, 0, _, .fz f _, e => by
    injection (show some (Slot.fz _) = some (Slot.fz _) from e) with e; injection e with e; subst e; exact ⟨_, rfl, f⟩
  | _, _, _, i + 1, d, .fz _ r, e => Args.getF (i := i) (d := d) r e
  | _, _, _, 0, _, .io _ _, e => by injection (show some (Slot.io _) = some (Slot.fz _) from e) with e; cases e
  | _, _, _, i + 1, d, .io _ r, e => Args.getF (i := i) (d := d) r e
  | _, _, _, 0, _, .fzS f _, e => by
    injection (show some (Slot.fz _) = some (Slot.fz _) from e) with e; injection e with e; subst e; exact ⟨_, rfl, f⟩
  | _, _, _, i + 1, d, .fzS _ r, e => Args.getF (i := i) (d := d) r e
theorem Args.getO : ∀ {m : Option Nat} {vs : List V} {ds : List D} {i : Nat} {s : Slot}, Args K B H a m vs ds → (initS m ds)[i]? = some s → owned s = true → m = some i ∧ vs[i]? = some (.ref a) ∧ Ow K B H a s.dat ∧ ∃ d, s = .io d
  | _, _, _, _, _, .nil, e, _ => by simp [initS] at e
  | _, _, _, 0, _, .fz f _, e, w => by injection (show some (Slot.fz _) = some _ from e) with e; subst e; cases w
  | _, _, _, i + 1, s, .fz _ r, e, w => by obtain ⟨h, _⟩ := Args.getO (i := i) (s := s) r e w; cases h
  | _, _, _, 0, _, .io f _, e, w => by injection (show some (Slot.io _) = some _ from e) with e; subst e; exact ⟨rfl, rfl, f, _, rfl⟩
  | _, _, _, i + 1, s, .io _ r, e, w => by obtain ⟨h, _⟩ := Args.getO (i := i) (s := s) r e w; cases h
  | _, _, _, 0, _, .fzS f _, e, w => by injection (show some (Slot.fz _) = some _ from e) with e; subst e; cases w
  | _, _, _, i + 1, s, .fzS _ r, e, w => by
    obtain ⟨h, q⟩ := Args.getO (i := i) (s := s) r e w
    injection h with h; subst h
    exact ⟨rfl, q⟩
theorem lv_start {m : Option Nat} {vs : List V} {ds : List D} {N : List Str} (A : Args K B H a m vs ds) (ex : Ex B H) (hN : vs.length ≤ N.length) :
    Lv K (frOf m a B H) (initE m N.length ds) (L2.start N vs) B H := by
  have hl := A.len
  have hs : ∀ {i : Nat} {s : Slot}, (initE m N.length ds)[i]? = some s → s = .un ∨ (initS m ds)[i]? = some s ∧ i < vs.length := fun {i s} e => by
    unfold initE at e
    by_cases h : i < (initS m ds).length
    · rw [List.getElem?_append_left h] at e
      exact .inr ⟨e, by rw [initS_len] at h; omega⟩
    · rw [List.getElem?_append_right (by omega)] at e
      exact .inl (List.eq_of_mem_replicate (List.mem_of_getElem? e))
  have ht : ∀ {i : Nat} {v : V}, vs[i]? = some v → (L2.start N vs)[i]? = some (some v) := fun {i v} e => by
    unfold L2.start
    have h := (List.getElem?_eq_some_iff.mp e).1
    rw [List.getElem?_append_left (by rw [List.length_map]; exact h), List.getElem?_map, e]; rfl
  refine ⟨ex, fun _ _ h _ => h, fun _ h => h, Ex.refl _, fun _ h _ _ => h, fun i d e => ?_, fun i s e w => ?_, fun i d e => ?_, fun i j s t v w S T b e1 e2 q1 q2 f1 f2 m1 m2 => ?_, ?_⟩
  · rcases hs e with z | ⟨e, _⟩
    · cases z
    · obtain ⟨v, e1, f⟩ := A.getF e
      exact ⟨v, ht e1, f⟩
  · rcases hs e with z | ⟨e, _⟩
    · subst z; cases w
    · obtain ⟨h1, h2, h3, d, rfl⟩ := A.getO e w
      exact ⟨.ref a, [a], ht h2, ⟨a, rfl, h3, rfl⟩, fun b hb => by rw [List.mem_singleton.mp hb]; exact .inl ⟨by rw [h1]; simp, rfl⟩⟩
  · rcases hs e with z | ⟨e, _⟩
    · cases z
    · obtain ⟨h1, h2, h3, _⟩ := A.getO e rfl
      subst h1
      refine ⟨a, ?_, ht h2⟩
      show (List.replicate i none ++ [some a])[i]? = some (some a)
      rw [List.getElem?_append_right (by rw [List.length_replicate]; omega), List.length_replicate, Nat.sub_self]; rfl
  · rcases hs e1 with z | ⟨e1, _⟩
    · subst z; exact f1.elim
    · rcases hs e2 with z | ⟨e2, _⟩
      · subst z; exact f2.elim
      · obtain ⟨h1, _⟩ := A.getO e1 f1.owned
        obtain ⟨h2, _⟩ := A.getO e2 f2.owned
        rw [h1] at h2; injection h2
  · show (initS m ds ++ List.replicate (N.length - ds.length) Slot.un).length = (vs.map some ++ List.replicate (N.length - vs.length) none).length
    rw [List.length_append, List.length_append, initS_len, List.length_replicate, List.length_replicate, List.length_map, hl]
end
theorem fn_def {P : Program} {w : World} {K : PySem.W.Frag} {mg : Str → Option Value} {base : Heap} {x qual : Str} {st : Stmt} {f : Addr} {fd : FuncData} {N ps : List Str} {k : Nat} {m : Option Nat} {fb : M Fl} (F : Fun K x qual st f fd) (S : FnScope N ps (defScope st)) (hps : ps.length ≤ N.length)
    (hbody : ∀ (cdv : Value) (A : Around) (outer : List PySem.Env) (s : Shared) (H : Hp) (E : XK), Quiet P base (A.deeper (envOfC qual (defScope st) s.heap.objs.size f cdv)) → Room k (A.deeper (envOfC qual (defScope st) s.heap.objs.size f cdv)) →
      SVs (cxOf (L2.CX P w) P w K mg base N qual (defScope st) f cdv A outer s H E) (fun cls d _ H => E cls d H) (defBody st) fb) : FnG P w K mg base (k + 1) f fd ps (spF K mg ps.length m (runF m N.length fb)) := by
  refine fng_of F S (fun vs H Q E h => by obtain ⟨_, _, _, _, _, h, _⟩ := h; exact h) (fun cdv A outer s H vs Q E gd hr h => ?_)
  refine ⟨_, pss_wss, ?_⟩
  obtain ⟨B, ds, a, ex, ar, hl, h⟩ := h
  have L := lv_start (N := N) ar ex (by omega)
  have done : ∀ {d : D} {o : Ob} {ρ' : Env} {v : V} {σ' : St} {B' H' : Hp}, (match fin m d o ρ' with
      | .ok d o out => ∀ v B' H', Cr (ioA m a) B H B' H' → (m ≠ none → Ow K B' H' a out) → RV K H B' H' a v d o → Q v H'
      | .rz c => ∀ B' H', Cr (ioA m a) B H B' H' → E ((mg c).getD .none) none H'
      | .fail => False) → Lv K (frOf m a B H) ρ' σ' B' H' → VO K (frOf m a B H) ρ' σ' B' H' v d o → Q v H' := by
    intro d o ρ' v σ' B' H' hq L' vo
    have cr : Cr (ioA m a) B H B' H' := ⟨L'.ex, L'.exB, L'.kept, L'.hid, L'.there⟩
    cases m with
    | none =>
      refine hq v B' H' cr (fun z => absurd rfl z) ?_
      cases o with
      | ff => exact vo
      | tt =>
        obtain ⟨p, e, ow, g, no⟩ := vo
        refine ⟨p, e, ow, ?_⟩
        rcases g with g | g
        · exact absurd rfl g.1
        · exact g
      | dp mk =>
        obtain ⟨S, t, nd, g⟩ := vo
        refine ⟨S, t, nd, fun p hp => ?_⟩
        rcases (g p hp).1 with g | g
        · exact absurd rfl g.1
        · exact g
      | al =>
        obtain ⟨j, b, p1, _⟩ := vo
        have p1' : ([] : List (Option Addr))[j]? = some (some b) := p1
        simp at p1'
    | some j =>
      unfold fin at hq
      cases q : ρ'[j]? with
      | none => simp only [q] at hq
      | some sl =>
        cases sl with
        | io out =>
          simp only [q] at hq
          obtain ⟨b, e1, w1, _⟩ := L'.ow j _ q rfl
          have pa : ∀ {j' : Nat} {b' : Addr}, (frP (some j) a)[j']? = some (some b') → b' = a := fun {j' b'} p1 => by
            have p1' : (List.replicate j none ++ [some a])[j']? = some (some b') := p1
            have := List.mem_of_getElem? p1'
            rcases List.mem_append.mp this with h | h
            · exact nomatch (List.eq_of_mem_replicate h)
            · injection List.mem_singleton.mp h
          obtain ⟨b', p1, e2⟩ := L'.io j _ q
          have hb : b' = a := pa p1
          have hb2 : b = b' := by rw [e1] at e2; injection e2 with z; injection z with z; injection z
          subst hb2; subst hb
          refine hq v B' H' cr (fun _ => w1) ?_
          have isO : OwS K B' H' ρ' σ' b := .mk q rfl e1 w1
          cases o with
          | ff => exact vo
          | tt =>
            obtain ⟨p, e, ow, g, no⟩ := vo
            refine ⟨p, e, ow, ?_⟩
            rcases g with g | g
            · obtain ⟨_, rfl⟩ := g
              exact absurd isO no
            · exact g
          | dp mk =>
            obtain ⟨S, t, nd, g⟩ := vo
            refine ⟨S, t, nd, fun p hp => ?_⟩
            rcases (g p hp).1 with h | h
            · obtain ⟨_, rfl⟩ := h
              exact absurd isO (g p hp).2
            · exact h
          | al =>
            obtain ⟨j', b', p1, rfl⟩ := vo
            rw [pa p1]; rfl
        | un => simp only [q] at hq
        | fz _ => simp only [q] at hq
        | ow _ => simp only [q] at hq
        | dp _ _ => simp only [q] at hq
  refine hbody cdv A outer s H E gd hr _ _ _ B H _ L ?_
  unfold runF at h
  cases q : fb (initE m N.length ds) with
  | ok fl ρ' =>
    rw [q] at h
    cases fl with
    | nx => exact fun σ' B' H' e' L' => done (v := .non) h L' (show Fz K B' V.non D.non from .non)
    | rt d o => exact fun v σ' B' H' e' L' vo => done h L' vo
    | bk => exact h.elim
    | ct => exact h.elim
  | rz c ρ' =>
    rw [q] at h
    exact fun σ' B' H' e' L' => h B' H' ⟨L'.ex, L'.exB, L'.kept, L'.hid, L'.there⟩
  | fail => rw [q] at h; exact h.elim
inductive AV where
  | v (d : D)
  | s (i : Nat)
inductive AOks (K : PySem.W.Frag) (B : Hp) (σ : St) : List V → List AV → Prop
  | nil : AOks K B σ [] []
  | v {x : V} {d : D} {xs : List V} {avs : List AV} : Fz K B x d → AOks K B σ xs avs → AOks K B σ (x :: xs) (.v d :: avs)
  | s {x : V} {i : Nat} {xs : List V} {avs : List AV} : σ[i]? = some (some x) → AOks K B σ xs avs → AOks K B σ (x :: xs) (.s i :: avs)
theorem AOks.mono {K : PySem.W.Frag} {B B' : Hp} {σ : St} (e : Ex B B') : ∀ {xs : List V} {avs : List AV}, AOks K B σ xs avs → AOks K B' σ xs avs
  | _, _, .nil => .nil
  | _, _, .v f r => .v (f.mono e) (AOks.mono e r)
  | _, _, .s f r => .s f (AOks.mono e r)
def EX (X : Cx) (W : WX) (es : List Expr) (f : M (List AV)) : Prop := ∀ (F : Fr) (ρ : Env) (σ : St) (B H : Hp) (Q : List V → Hp → Prop), Lv X.K F ρ σ B H →
  Post X W F σ B (f ρ) (fun avs _ B' H' => ∀ vs, AOks X.K B' σ vs avs → Q vs H') → wa X es σ H Q
def xNil : M (List AV) := M.pure []
def xV (f : M D) (g : M (List AV)) : M (List AV) := M.bind f fun x => M.bind g fun xs => M.pure (.v x :: xs)
def xS (i : Nat) (g : M (List AV)) : M (List AV) := M.bind (fun ρ => match ρ[i]? with
  | some (.ow _) => .ok () ρ
  | some (.io _) => .ok () ρ
  | _ => .fail) fun _ => M.bind g fun xs => M.pure (.s i :: xs)
section
variable {X : Cx} {W : WX} {e : Expr} {es : List Expr} {pos : Pos}
theorem ex_nil : EX X W [] xNil := fun F ρ σ B H Q L P => PA.wa pa_nil (P B H (Ex.refl _) L [] .nil)
theorem ex_v {f : M D} {g : M (List AV)} (ha : EV X W e f) (hr : EX X W es g) (hs : starEach (e :: es) X.env = (false, eval e X.env) :: starEach es X.env := by exact star_un rfl) : EX X W (e :: es) (xV f g) := by
  intro F ρ σ B H Q L P
  refine PA.wa (pa_cons pe_we pa_wa hs) ?_
  refine ha F ρ σ B H _ L ((Post.bind P).imp fun dx ρ1 B1 H1 e1 L1 P1 x fx => ?_)
  refine hr F ρ1 σ B1 H1 _ L1 ((Post.bind P1).imp fun ds ρ2 B2 H2 e2 L2 P2 xs fs => ?_)
  exact P2 B2 H2 (Ex.refl _) L2 _ (.v (fx.mono e2) fs)
theorem ex_s (i : Nat) {x : Str} {p : Pos} {g : M (List AV)} (hr : EX X W es g) (hN : X.N[i]? = some x := by rfl) (hv : Vis X.env.scope x := by first | exact Or.inl rfl | exact Or.inr (Or.inl rfl) | exact Or.inr (Or.inr rfl)) (hd : (x == ("__debug__" : Str)) = false := by decide)
    (hcd : (x == ("__classdict__" : Str)) = false := by decide) (hs : starEach (.Name x p :: es) X.env = (false, eval (.Name x p) X.env) :: starEach es X.env := by rfl) : EX X W (.Name x p :: es) (xS i g) := by
  intro F ρ σ B H Q L P
  refine PA.wa (pa_cons (pe_var hN hv hd hcd) pa_wa hs) ?_
  have P1 := Post.bind P
  have go : ∀ {v : V}, σ[i]? = some (some v) → Post X W F σ B ((M.bind g fun xs => M.pure (.s i :: xs)) ρ) (fun avs _ B' H' => ∀ vs, AOks X.K B' σ vs avs → Q vs H') → (tVar i σ H fun x H1 => wa X es σ H1 fun xs H2 => Q (x :: xs) H2) := by
    intro v ev P2
    refine ⟨v, ev, ?_⟩
    refine hr F ρ σ B H _ L ((Post.bind P2).imp fun ds ρ2 B2 H2 e2 L2 P2 xs fs => ?_)
    exact P2 B2 H2 (Ex.refl _) L2 _ (.s ev fs)
  cases q : ρ[i]? with
  | none => simp only [q] at P1; exact P1.elim
  | some sl =>
    cases sl with
    | ow d =>
      simp only [q] at P1
      obtain ⟨a, e1, _⟩ := L.ow i _ q rfl
      exact go e1 (P1 B H (Ex.refl _) L)
    | io d =>
      simp only [q] at P1
      obtain ⟨a, e1, _⟩ := L.ow i _ q rfl
      exact go e1 (P1 B H (Ex.refl _) L)
    | un => simp only [q] at P1; exact P1.elim
    | fz d => simp only [q] at P1; exact P1.elim
    | dp m d => simp only [q] at P1; exact P1.elim
def contS : Option Slot → Option D
  | some (.ow d) => some d
  | some (.io d) => some d
  | _ => none
def setup (ρ : Env) : Option Nat → List AV → Option (List D)
  | none, [] => some []
  | none, .v d :: r => (setup ρ none r).map (d :: ·)
  | some 0, .s i :: r => (contS ρ[i]?).bind fun d => (setup ρ none r).map (d :: ·)
  | some (j + 1), .v d :: r => (setup ρ (some j) r).map (d :: ·)
  | _, _ => none
def slotOf : Option Nat → List AV → Option Nat
  | some 0, .s i :: _ => some i
  | some (j + 1), _ :: r => slotOf (some j) r
  | _, _ => none
def reslot (s : Option Slot) (d : D) : Slot := match s with
  | some (.ow _) => .ow d
  | some (.io _) => .io d
  | _ => .un
def mCallF (m : Option Nat) (g : List D → Rf) (f : M (List AV)) : M (D × Ob) := M.bind f fun avs ρ => match setup ρ m avs with
  | none => .fail
  | some ds => match g ds with
    | .ok d o out => if o.ok = true then .ok (d, o) (match slotOf m avs with
      | none => ρ
      | some i => ρ.set i (reslot ρ[i]? out)) else .fail
    | .rz c => .rz c (match slotOf m avs with
      | none => ρ
      | some i => ρ.set i .un)
    | .fail => .fail
theorem setup_none {K : PySem.W.Frag} {B H : Hp} {σ : St} {ρ : Env} {a : Addr} : ∀ {vs : List V} {avs : List AV} {ds : List D}, AOks K B σ vs avs → setup ρ none avs = some ds → Args K B H a none vs ds
  | _, _, _, .nil, h => by injection h with h; subst h; exact .nil
  | _, _, _, .v f r, h => by
    have h' : (setup ρ none _).map (_ :: ·) = some _ := h
    cases q : setup ρ none _ with
    | none => rw [q] at h'; cases h'
    | some ds => rw [q] at h'; injection h' with h'; subst h'; exact .fz f (setup_none r q)
  | _, _, _, .s _ _, h => by cases (show (none : Option (List D)) = some _ from h)
theorem slotOf_none : ∀ (avs : List AV), slotOf none avs = none
  | [] => rfl
  | .v _ :: _ => rfl
  | .s _ :: _ => rfl
theorem setup_some {K : PySem.W.Frag} {F : Fr} {B H : Hp} {σ : St} {ρ : Env} (L : Lv K F ρ σ B H) : ∀ {j : Nat} {vs : List V} {avs : List AV} {ds : List D}, AOks K B σ vs avs → setup ρ (some j) avs = some ds →
    ∃ i s a, slotOf (some j) avs = some i ∧ ρ[i]? = some s ∧ flat s = true ∧ σ[i]? = some (some (.ref a)) ∧ Args K B H a (some j) vs ds
  | 0, _, _, _, .s (x := x) (i := i) f r, h => by
    have h' : (contS ρ[i]?).bind (fun d => (setup ρ none _).map (d :: ·)) = some _ := h
    cases q : contS ρ[i]? with
    | none => rw [q] at h'; cases h'
    | some d =>
      rw [q] at h'
      have h2 : (setup ρ none _).map (d :: ·) = some _ := h'
      cases q2 : setup ρ none _ with
      | none => rw [q2] at h2; cases h2
      | some ds =>
        rw [q2] at h2; injection h2 with h2; subst h2
        cases q3 : ρ[i]? with
        | none => rw [q3] at q; cases q
        | some s =>
          rw [q3] at q
          have ho : flat s = true ∧ s.dat = d := by
            cases s with
            | ow d' => injection q with q; exact ⟨rfl, q⟩
            | io d' => injection q with q; exact ⟨rfl, q⟩
            | un => cases q
            | fz d' => cases q
            | dp _ d' => cases q
          obtain ⟨a, e1, w, g⟩ := L.ow i s q3 ho.1
          rw [e1] at f
          injection f with f; injection f with f; subst f
          rw [ho.2] at w
          exact ⟨i, s, a, rfl, q3, ho.1, e1, .io w (setup_none r q2)⟩
  | j + 1, _, _, _, .v (d := d) f r, h => by
    have h' : (setup ρ (some j) _).map (d :: ·) = some _ := h
    cases q : setup ρ (some j) _ with
    | none => rw [q] at h'; cases h'
    | some ds =>
      rw [q] at h'; injection h' with h'; subst h'
      obtain ⟨i, s, a, h1, h2, h3, h4, h5⟩ := setup_some L r q
      exact ⟨i, s, a, h1, h2, h3, h4, .fzS f h5⟩
  | 0, _, _, _, .nil, h => by cases (show (none : Option (List D)) = some _ from h)
  | 0, _, _, _, .v _ _, h => by cases (show (none : Option (List D)) = some _ from h)
  | _ + 1, _, _, _, .nil, h => by cases (show (none : Option (List D)) = some _ from h)
  | _ + 1, _, _, _, .s _ _, h => by cases (show (none : Option (List D)) = some _ from h)
theorem call_sp {F : Fr} {ρ : Env} {σ : St} {B H : Hp} {Q : VK} {m : Option Nat} {g : List D → Rf} {n : Nat} {avs : List AV} {vs : List V} (L : Lv X.K F ρ σ B H) (fs : AOks X.K B σ vs avs) (hn : vs.length = n)
    (P : Post X W F σ B ((match setup ρ m avs with
      | none => Rs.fail
      | some ds => match g ds with
        | .ok d o out => if o.ok = true then .ok (d, o) (match slotOf m avs with | none => ρ | some i => ρ.set i (reslot ρ[i]? out)) else .fail
        | .rz c => .rz c (match slotOf m avs with | none => ρ | some i => ρ.set i .un)
        | .fail => .fail) : Rs (D × Ob)) (fun p ρ' B' H' => ∀ v, VO X.K F ρ' σ B' H' v p.1 p.2 → Q v H')) : spF X.K X.mg n m g vs H Q (WE W σ) := by
  cases q : setup ρ m avs with
  | none => rw [q] at P; exact P.elim
  | some ds =>
    rw [q] at P
    cases m with
    | none =>
      rw [slotOf_none] at P
      refine ⟨B, ds, 0, L.ex, setup_none fs q, hn, ?_⟩
      have hA : ∀ b, ioA none 0 b → F.A b ∨ F.H0 b = none := fun b z => absurd rfl z.1
      have hO : ∀ b, ioA none 0 b → ¬ OwS X.K B H ρ σ b := fun b z => absurd rfl z.1
      cases q2 : g ds with
      | ok d o out =>
        simp only [q2] at P ⊢
        intro v B' H' cr _ rv
        have L' := L.callN cr hA hO
        have no : ∀ {p : Addr}, H p = none → ¬ OwS X.K B' H' ρ σ p := fun {p} n0 z => (L.hidOw (z.back L cr.exB (cr.keeps L hO))).2.ne n0
        split at P
        · rename_i ok
          refine P B' H' cr.exB L' v ?_
          cases o with
          | ff => exact rv
          | tt =>
            obtain ⟨p, e, w, n0⟩ := rv
            exact ⟨p, e, w, .inr (L.free n0), no n0⟩
          | dp mk =>
            obtain ⟨S, t, nd, n0⟩ := rv
            exact ⟨S, t, nd, fun p hp => ⟨.inr (L.free (n0 p hp)), no (n0 p hp)⟩⟩
          | al => cases ok
        · exact P.elim
      | rz c =>
        simp only [q2] at P ⊢
        exact fun B' H' cr => P B' H' cr.exB (L.callN cr hA hO)
      | fail => simp only [q2] at P; exact P.elim
    | some j =>
      obtain ⟨i, s, a, hsl, hs, ho, hsig, ar⟩ := setup_some L fs q
      rw [hsl] at P
      refine ⟨B, ds, a, L.ex, ar, hn, ?_⟩
      obtain ⟨v0, S0, q', f0, g0, no0, L1⟩ := L.take hs (flat_owned ho)
      rw [hsig] at q'; injection q' with q'; injection q' with q'; subst q'
      obtain ⟨w0, rfl⟩ := f0.one ho
      have g0 := g0 a (by simp)
      have na := no0 a (by simp)
      have hA : ∀ b, ioA (some j) a b → F.A b ∨ F.H0 b = none := fun b z => by rw [z.2]; exact g0
      have hO : ∀ b, ioA (some j) a b → ¬ OwS X.K B H (ρ.set i .un) σ b := fun b z => by rw [z.2]; exact na
      cases q2 : g ds with
      | ok d o out =>
        simp only [q2] at P ⊢
        intro v B' H' cr wo rv
        have L2 := L1.callN cr hA hO
        have bk : ∀ {p : Addr}, OwS X.K B' H' (ρ.set i .un) σ p → OwS X.K B H (ρ.set i .un) σ p := fun {p} z => z.back L1 cr.exB (cr.keeps L1 hO)
        have ht : flat (reslot ρ[i]? out) = true ∧ (reslot ρ[i]? out).dat = out := by
          rw [hs]
          cases s with
          | ow d' => exact ⟨rfl, rfl⟩
          | io d' => exact ⟨rfl, rfl⟩
          | un => cases ho
          | fz d' => cases ho
          | dp _ d' => cases ho
        have L3 := L2.own (i := i) (t := reslot ρ[i]? out) (v := .ref a) (S := [a]) hsig (.mk (by rw [ht.2]; exact wo (by simp)) ht.1) (by simpa using g0) (fun b hb h => by
              rw [List.set_set] at h
              rw [List.mem_singleton.mp hb] at h
              exact na (bk h)) (fun d' z => by
            rw [hs] at z
            cases s with
            | ow d' => cases z
            | io d'' =>
              obtain ⟨b, p1, p2⟩ := L.io i d'' hs
              rw [hsig] at p2
              obtain rfl : a = b := by injection p2 with z; injection z with z; injection z
              exact ⟨a, rfl, p1⟩
            | un => cases ho
            | fz d' => cases ho
            | dp _ d' => cases ho)
        rw [List.set_set] at L3
        have no : ∀ {p : Addr}, H p = none → ¬ OwS X.K B' H' (ρ.set i (reslot ρ[i]? out)) σ p := fun {p} n0 ⟨j', s', v', S', e1, q1, f1, m1⟩ => by
          rcases get_set e1 with ⟨rfl, z, l⟩ | ⟨n, e1⟩
          · rw [hsig] at q1; injection q1 with q1; injection q1 with q1; subst q1
            rw [z] at f1
            obtain ⟨_, rfl⟩ := f1.one ht.1
            rw [List.mem_singleton.mp m1] at n0
            exact w0.there.ne n0
          · exact (L1.hidOw (bk ⟨j', s', v', S', by rw [List.getElem?_set_ne (Ne.symm n)]; exact e1, q1, f1, m1⟩)).2.ne n0
        split at P
        · rename_i ok
          refine P B' H' cr.exB L3 v ?_
          cases o with
          | ff => exact rv
          | tt =>
            obtain ⟨p, e, w, n0⟩ := rv
            exact ⟨p, e, w, .inr (L.free n0), no n0⟩
          | dp mk =>
            obtain ⟨S, t, nd, n0⟩ := rv
            exact ⟨S, t, nd, fun p hp => ⟨.inr (L.free (n0 p hp)), no (n0 p hp)⟩⟩
          | al => cases ok
        · exact P.elim
      | rz c =>
        simp only [q2] at P ⊢
        exact fun B' H' cr => P B' H' cr.exB (L1.callN cr hA hO)
      | fail => simp only [q2] at P; exact P.elim
theorem aoks_len {K : PySem.W.Frag} {B : Hp} {σ : St} : ∀ {vs : List V} {avs : List AV}, AOks K B σ vs avs → vs.length = avs.length
  | _, _, .nil => rfl
  | _, _, .v _ r => by rw [List.length_cons, List.length_cons, aoks_len r]
  | _, _, .s _ r => by rw [List.length_cons, List.length_cons, aoks_len r]
def mCallN (n : Nat) (m : Option Nat) (g : List D → Rf) (f : M (List AV)) : M (D × Ob) := mCallF m g (M.bind f fun avs => M.opt (if avs.length = n then some avs else none))
theorem eo_call {x : Str} {k n : Nat} {f : Addr} {fd : FuncData} {ps : List Str} {m : Option Nat} {g : List D → Rf} {p : Pos} {fa : M (List AV)} (G : FnG X.prog X.w X.K X.mg X.base k f fd ps (spF X.K X.mg n m g)) (gd : Quiet X.prog X.base X.A) (hr : Room k X.A) (tk : Takes X W)
    (hm : X.mg x = some (.ref f)) (hk : PySem.W.keepIn X.K (.ref f) = true) (hb : Binds X.K fd ps []) (ha : EX X W (e :: es) fa) (hg : Gl X x := by rfl) (hdb : (x == ("__debug__" : Str)) = false := by decide)
    (he : starEach (e :: es) X.env = (false, eval e X.env) :: starEach es X.env := by exact star_un rfl) (hpl : (backTo pos (starEach es X.env)).any (·.1) = false := by rfl) : EO X W (.Call (.Name x p) (e :: es) [] pos) (mCallN n m g fa) := by
  intro F ρ σ B H Q L P
  refine PE.we (pe_callG G gd hr hg hm hk hb (fun σ => passAt tk σ) pa_wa hdb he hpl) ?_
  have P0 := Post.bind P
  refine ha F ρ σ B H _ L ((Post.bind P0).imp fun avs ρ1 B1 H1 e1 L1 P1 vs fs => ?_)
  obtain ⟨avs', h1, h2⟩ := P1.opt
  split at h1
  · rename_i hl
    injection h1 with h1; subst h1
    exact call_sp L1 fs (by rw [aoks_len fs]; exact hl) (h2 B1 H1 (Ex.refl _) L1)
  · cases h1
end
end Dt
namespace Dt
open PySem PySem.Spec PyProof.Rows L2
section
variable {X : Cx} {W : WX} {e a b c : Expr} {pos : Pos} {K : PySem.W.Frag}
def dAbs : List D → Option D
  | [.int i] => some (.int (if i < 0 then -i else i))
  | _ => none
theorem cd_abs : CallD K (fun xs H Q => ∃ i, xs = [.int i] ∧ Q (.int (if i < 0 then -i else i)) H) dAbs := by
  intro xs ds d B H Q ex fs h g
  unfold dAbs at h
  split at h
  · cases fs with
    | cons f fs => cases fs; cases f; injection h with h; subst h; exact ⟨_, rfl, g.1 _ (.int _)⟩
  · cases h
def dLen : List D → Option D
  | [.lst xs] => some (.int xs.length)
  | [.tup xs] => some (.int xs.length)
  | [.scr xs] => some (.int xs.length)
  | [.str x] => if tooLong x.length = true then none else some (.int x.length)
  | _ => none
theorem cd_len : CallD K (fun xs H Q => ∃ x n, xs = [x] ∧ LenV K x H n ∧ Q (.int n) H) dLen := by
  intro xs ds d B H Q ex fs h g
  unfold dLen at h
  split at h
  · cases fs with
    | cons f fs =>
      cases fs
      cases f with
      | @lst l xs ds hl fs =>
        injection h with h; subst h
        exact ⟨_, xs.length, rfl, .inl ⟨xs, .inl (.inl (ex _ _ hl)), rfl⟩, by rw [fs.len]; exact g.1 _ (.int _)⟩
  · cases fs with
    | cons f fs =>
      cases fs
      cases f with
      | @tup l xs ds hl fs =>
        injection h with h; subst h
        exact ⟨_, xs.length, rfl, .inr ⟨xs, ex.st hl, rfl⟩, by rw [fs.len]; exact g.1 _ (.int _)⟩
  · cases fs with
    | cons f fs =>
      cases fs
      cases f with
      | @scr l ns hl =>
        injection h with h; subst h
        exact ⟨_, (List.map V.int _).length, rfl, .inl ⟨_, ex.sl hl, rfl⟩, by rw [List.length_map]; exact g.1 _ (.int _)⟩
  · cases fs with
    | cons f fs =>
      cases fs
      cases f
      split at h
      · cases h
      · rename_i hz
        injection h with h; subst h
        exact ⟨_, _, rfl, ⟨notLong hz, rfl⟩, g.1 _ (.int _)⟩
  · cases h
variable {es : List Expr} {p : Pos} {fa : M (List D)} {f1 : M D}
theorem ev_abs (hm : X.mg "abs" = none) (ha : EA X W [a] fa) (hg : Gl X "abs" := by rfl) (he : starEach (a :: []) X.env = (false, eval a X.env) :: starEach [] X.env := by rfl) : EV X W (.Call (.Name "abs" p) [a] [] pos) (mCall dAbs fa) := ev_callB call_abs cd_abs hg hm (by decide +kernel) ha (by decide) (by decide) he
theorem ev_len (hm : X.mg "len" = none) (ha : EA X W [a] fa) (hg : Gl X "len" := by rfl) (he : starEach (a :: []) X.env = (false, eval a X.env) :: starEach [] X.env := by rfl) : EV X W (.Call (.Name "len" p) [a] [] pos) (mCall dLen fa) := ev_callB call_len cd_len hg hm PySem.boot_len ha (by decide) (by decide) he
def tyD : D → String
  | .non => "NoneType"
  | .bl _ => "bool"
  | .int _ => "int"
  | .str _ => "str"
  | .lst _ => "list"
  | .tup _ => "tuple"
  | .scr _ => "list"
  | .dic _ _ => "dict"
  | .dct _ _ => "dict"
  | .obj _ => "object"
  | .key _ => "tuple"
def isO : D → Bool
  | .obj _ => true
  | .dct _ _ => true
  | _ => false
theorem Fz.ty {B H : Hp} {v : V} {d : D} (ex : Ex B H) (h : Fz K B v d) (n : isO d = false) : TyX K H v (.type (tyD d)) := by
  cases h with
  | non => exact .base .non
  | bl b => exact .base (.bl b)
  | int i => exact .base (.int i)
  | str x => exact .base (.str x)
  | lst h _ => exact .base (.lst (ex _ _ h))
  | tup h _ =>
    rcases h with (h | ⟨o, h⟩) | ⟨o, its, n, h, hc, _⟩
    · exact .base (.tup (ex _ _ h))
    · exact .fTuple (ex _ _ h)
    · exact .kTuple h hc
  | scr h =>
    rcases h with (h | ⟨o, h⟩) | ⟨o, its, n, h, hc, _⟩
    · exact .base (.lst (ex _ _ h))
    · exact .base (.frz (ex _ _ h))
    · exact .kList h hc
  | dic h _ _ => exact .base (.dK (ex _ _ h))
  | dct h _ _ => cases n
  | obj a => cases n
  | key h => exact .base (.tup (ex _ _ h))
def dIsi (T : String) (d : D) : Option D := cond (isO d) none ((kitB (tyD d) T).map D.bl)
def mIsi (T : String) (f : M D) : M D := M.bind f fun d => M.opt (dIsi T d)
theorem ev_isi {T : Str} {Tn : String} {p2 : Pos} (hm : X.mg "isinstance" = none) (hmT : X.mg T = none) (ha : EV X W a f1) (hvT : bootBuiltins T = some (.type Tn)) (hg : Gl X "isinstance" := by rfl) (hgT : Gl X T := by rfl) (hn : T ≠ "__name__" := by decide) (hd : (T == ("__debug__" : Str)) = false := by decide)
    (he : starEach (a :: [.Name T p2]) X.env = (false, eval a X.env) :: starEach [.Name T p2] X.env := by rfl) (he2 : starEach (.Name T p2 :: []) X.env = (false, eval (.Name T p2) X.env) :: starEach [] X.env := by rfl) (hpl : (backTo pos (starEach [.Name T p2] X.env)).any (·.1) = false := by rfl) : EV X W (.Call (.Name "isinstance" p) [a, .Name T p2] [] pos) (mIsi Tn f1) := by
  intro F ρ σ B H Q L P
  have pT : PE X (.Name T p2) (tC (.ty Tn)) := pe_bltn hgT hmT hvT rfl hn hd
  refine PE.we (pe_callB call_isi hg hm (by decide +kernel) (pa_cons pe_we (pa_cons pT pa_nil he2) he) (by decide) (by decide) he hpl) ?_
  refine ha F ρ σ B H _ L ((Post.bind P).imp fun d ρ1 B1 H1 e1 L1 P1 v fv => ?_)
  obtain ⟨z, hz, k⟩ := P1.opt
  unfold dIsi at hz
  cases qo : isO d with
  | true => rw [qo] at hz; cases hz
  | false =>
  rw [qo] at hz
  dsimp only [cond_false] at hz
  cases q : kitB (tyD d) Tn with
  | none => rw [q] at hz; cases hz
  | some r =>
    rw [q] at hz
    injection hz with hz; subst hz
    exact ⟨v, .ty Tn, .type (tyD d), .type Tn, r, rfl, .ty Tn, fv.ty L1.ex qo, kit_ty q, k B1 H1 (Ex.refl _) L1 _ (.bl r)⟩
def chk (i : Nat) : M Unit := fun ρ => match ρ[i]? with
  | some (.ow _) => .ok () ρ
  | some (.io _) => .ok () ρ
  | some (.fz _) => .ok () ρ
  | _ => .fail
theorem Lv.chk {α : Type} {F : Fr} {ρ : Env} {σ : St} {B H : Hp} {i : Nat} (L : Lv K F ρ σ B H) (h : Dt.chk i ρ ≠ .fail) : Dt.chk i ρ = .ok () ρ ∧ ∃ v, σ[i]? = some (some v) := by
  unfold Dt.chk at h ⊢
  split at h
  · rename_i d q
    obtain ⟨a, e1, _⟩ := L.ow i _ q rfl
    exact ⟨by simp only [q], _, e1⟩
  · rename_i d q
    obtain ⟨a, e1, _⟩ := L.ow i _ q rfl
    exact ⟨by simp only [q], _, e1⟩
  · rename_i d q
    obtain ⟨v, e1, _⟩ := L.fz i _ q
    exact ⟨by simp only [q], _, e1⟩
  · exact absurd rfl h
def mPutAt (i : Nat) (fe fk : M D) : M Fl := M.bind fe fun d => M.bind (chk i) fun _ => M.bind fk fun k ρ => match ρ[i]?, k with
  | some (.ow (.lst ds)), .int z => match ixN ds.length z with
    | some j => .ok .nx (ρ.set i (.ow (.lst (ds.set j d))))
    | none => .fail
  | some (.io (.lst ds)), .int z => match ixN ds.length z with
    | some j => .ok .nx (ρ.set i (.io (.lst (ds.set j d))))
    | none => .fail
  | _, _ => .fail
theorem Lv.setAt {F : Fr} {ρ : Env} {σ : St} {B H : Hp} {i : Nat} {s : Slot} {ds ds' : List D} (L : Lv K F ρ σ B H) (e : ρ[i]? = some s) (ho : flat s = true) (hd : s.dat = .lst ds) :
    ∃ a vs, σ[i]? = some (some (V.ref a)) ∧ H a = some (.lst vs) ∧ Fzs K B vs ds ∧ ∀ vs' ds', Fzs K B vs' ds' → Lv K F (ρ.set i (reslot ρ[i]? (.lst ds'))) σ B (upd H a (.lst vs')) := by
  obtain ⟨a, e1, w, g⟩ := L.ow i s e ho
  rw [hd] at w
  obtain ⟨n, vs, h1, fs⟩ := w
  refine ⟨a, vs, e1, h1, fs, fun vs' ds' fs' => ?_⟩
  refine L.write e ho e1 ?_ ?_
  · rw [e]
    cases s with
    | ow d => exact .inl ⟨d, rfl, _, rfl⟩
    | io d => exact .inr ⟨d, rfl, _, rfl⟩
    | un => cases ho
    | fz d => cases ho
    | dp _ d => cases ho
  · rw [e]
    cases s with
    | ow d => exact ⟨n, vs', upd_same, fs'⟩
    | io d => exact ⟨n, vs', upd_same, fs'⟩
    | un => cases ho
    | fz d => cases ho
    | dp _ d => cases ho
theorem sv_putAt {i : Nat} {x : Str} {kx : Expr} {px pt : Pos} {fe fk : M D} (he : EV X W e fe) (hk : EV X W kx fk) (hN : X.N[i]? = some x := by rfl) (hv : Vis X.env.scope x := by first | exact Or.inl rfl | exact Or.inr (Or.inl rfl) | exact Or.inr (Or.inr rfl)) (hd : (x == ("__debug__" : Str)) = false := by decide)
    (hcd : (x == ("__classdict__" : Str)) = false := by decide)
    (ha : ∀ v, assign (.Subscript (.Name x px) kx pt) X.env v = (do
      let ov ← holding [v] (eval (.Name x px) X.env)
      let iv ← holding [v, ov] (eval kx X.env)
      standAt pt
      holding [v, ov, iv] (setItem ov iv v)
      release [v, ov, iv] []) := by intro _; rfl)
    (hs : swapsWithSole [.Subscript (.Name x px) kx pt] e pos.line X.env = pure false := by rfl) (hw : swappedStores [.Subscript (.Name x px) kx pt] e X.env = pure none := by rfl)
    (h1 : (assignEach [.Subscript (.Name x px) kx pt] X.env).map (·.2) = [assign (.Subscript (.Name x px) kx pt) X.env] := by rfl) : SV X W (.Assign [.Subscript (.Name x px) kx pt] e pos) (mPutAt i fe fk) := by
  intro F ρ σ B H N L P
  refine PS.ws (ps_asg pe_we (pg_sub (pe_var hN hv hd hcd) pe_we set_list ha) hs hw h1) ?_
  refine he F ρ σ B H _ L ((PostS.bind P).imp fun d ρ1 B1 H1 e1 L1 P1 v fv => ?_)
  have P1' : PostS X W F B1 ((M.bind (chk i) fun _ => M.bind fk fun k ρ => match ρ[i]?, k with
    | some (.ow (.lst ds)), .int z => match ixN ds.length z with
      | some j => .ok .nx (ρ.set i (.ow (.lst (ds.set j d))))
      | none => .fail
    | some (.io (.lst ds)), .int z => match ixN ds.length z with
      | some j => .ok .nx (ρ.set i (.io (.lst (ds.set j d))))
      | none => .fail
    | _, _ => Rs.fail) ρ1) N := P1
  have hne : chk i ρ1 ≠ .fail := fun z => by unfold M.bind at P1'; simp only [z] at P1'; exact P1'.elim
  obtain ⟨hck, vo0, ev0⟩ := L1.chk (α := Unit) hne
  unfold M.bind at P1'
  simp only [hck] at P1'
  have P2 := PostS.bind (σ := σ) P1'
  have go : ∀ (vo : V), σ[i]? = some (some vo) → tVar i σ H1 fun o H1' => we X kx σ H1' fun k H2 => rSetL o k v H2 fun H3 => N.nx σ H3 := by
    intro vo ev
    refine ⟨vo, ev, hk F ρ1 σ B1 H1 _ L1 (P2.imp fun k ρ2 B2 H2 e2 L2 P3 u fu => ?_)⟩
    cases q : ρ2[i]? with
    | none => simp only [q] at P3; exact P3.elim
    | some s =>
      have fin : ∀ {ds : List D} {z : Int} {j : Nat}, flat s = true → s.dat = .lst ds → k = .int z → ixN ds.length z = some j → PostS X W F B2 (.ok .nx (ρ2.set i (reslot ρ2[i]? (.lst (ds.set j d))))) N → rSetL vo u v H2 fun H3 => N.nx σ H3 := by
        intro ds z j ho hdat hk hj P4
        subst hk
        cases fu
        obtain ⟨a, vs, h1, h2, fs, st⟩ := L2.setAt (ds' := ds) q ho hdat
        rw [ev] at h1
        injection h1 with h1; injection h1 with h1; subst h1
        exact ⟨a, vs, z, j, rfl, rfl, h2, by rw [fs.len]; exact hj, P4 σ B2 _ (Ex.refl _) (st _ _ (fs.set j (fv.mono e2)))⟩
      cases s with
      | ow dd =>
        cases dd with
        | lst ds =>
          cases k with
          | int z =>
            simp only [q] at P3
            cases hj : ixN ds.length z with
            | none => simp only [hj] at P3; exact P3.elim
            | some j => simp only [hj] at P3; exact fin rfl rfl rfl hj (by rw [q]; exact P3)
          | _ => simp only [q] at P3; exact P3.elim
        | _ => simp only [q] at P3; exact P3.elim
      | io dd =>
        cases dd with
        | lst ds =>
          cases k with
          | int z =>
            simp only [q] at P3
            cases hj : ixN ds.length z with
            | none => simp only [hj] at P3; exact P3.elim
            | some j => simp only [hj] at P3; exact fin rfl rfl rfl hj (by rw [q]; exact P3)
          | _ => simp only [q] at P3; exact P3.elim
        | _ => simp only [q] at P3; exact P3.elim
      | un => simp only [q] at P3; exact P3.elim
      | fz _ => simp only [q] at P3; exact P3.elim
      | dp _ _ => simp only [q] at P3; exact P3.elim
  exact go vo0 ev0
def contR : Option Slot → Option D
  | some (.ow d) => some d
  | some (.io d) => some d
  | some (.fz d) => some d
  | _ => none
theorem Lv.cont {F : Fr} {ρ : Env} {σ : St} {B H : Hp} {i : Nat} {d : D} {v : V} (L : Lv K F ρ σ B H) (h : contR ρ[i]? = some d) (ev : σ[i]? = some (some v)) : ∃ B2, Ex B B2 ∧ Ex B2 H ∧ Fz K B2 v d ∧ (∀ ds, d = .lst ds → ∃ a vs, v = .ref a ∧ H a = some (.lst vs) ∧ Fzs K B vs ds) := by
  have own : ∀ {s : Slot}, ρ[i]? = some s → flat s = true → s.dat = d → ∃ B2, Ex B B2 ∧ Ex B2 H ∧ Fz K B2 v d ∧ (∀ ds, d = .lst ds → ∃ a vs, v = .ref a ∧ H a = some (.lst vs) ∧ Fzs K B vs ds) := by
    intro s q ho hd
    obtain ⟨a, e1, w, g⟩ := L.ow i s q ho
    rw [ev] at e1; injection e1 with e1; injection e1 with e1; subst e1
    rw [hd] at w
    obtain ⟨o, h1, h2⟩ := w.fz
    refine ⟨_, Ex.new w.hid, fun b u q => ?_, h2, fun ds z => ?_⟩
    · by_cases hb : b = a
      · subst hb; rw [upd_same] at q; rw [h1]; exact q
      · rw [upd_ne hb] at q; exact L.ex b u q
    · subst z
      obtain ⟨_, vs, h3, fs⟩ := w
      exact ⟨a, vs, rfl, h3, fs⟩
  cases q : ρ[i]? with
  | none => rw [q] at h; cases h
  | some s =>
    rw [q] at h
    cases s with
    | un => cases h
    | dp _ _ => cases h
    | ow d' => injection h with h; exact own q rfl h
    | io d' => injection h with h; exact own q rfl h
    | fz d' =>
      injection h with h; subst h
      obtain ⟨v', e1, f⟩ := L.fz i _ q
      rw [ev] at e1; injection e1 with e1; injection e1 with e1; subst e1
      refine ⟨B, Ex.refl _, L.ex, f, fun ds z => ?_⟩
      subst z
      cases f with
      | lst h1 fs => exact ⟨_, _, rfl, L.ex _ _ h1, fs⟩
def dIxL : D → D → Option D
  | .lst ds, .int i => L2.atI ds i
  | _, _ => none
def mPeek (i : Nat) (fk : M D) : M D := M.bind (chk i) fun _ => M.bind fk fun k ρ => match (contR ρ[i]?).bind fun d => dIxL d k with
  | some z => .ok z ρ
  | none => .fail
theorem ev_peek {i : Nat} {x : Str} {kx : Expr} {px : Pos} {fk : M D} (hk : EV X W kx fk) (hN : X.N[i]? = some x := by rfl) (hv : Vis X.env.scope x := by first | exact Or.inl rfl | exact Or.inr (Or.inl rfl) | exact Or.inr (Or.inr rfl)) (hd : (x == ("__debug__" : Str)) = false := by decide)
    (hcd : (x == ("__classdict__" : Str)) = false := by decide) (hs : PlainIx kx := by exact fun _ _ => rfl) : EV X W (.Subscript (.Name x px) kx pos) (mPeek i fk) := by
  intro F ρ σ B H Q L P
  refine PE.we (pe_ix ix_list (pe_var hN hv hd hcd) pe_we hs) ?_
  have P0 : Post X W F σ B ((M.bind (chk i) fun _ => M.bind fk fun k ρ => match (contR ρ[i]?).bind fun d => dIxL d k with
    | some z => .ok z ρ
    | none => Rs.fail) ρ) (fun d _ B' H' => ∀ v, Fz X.K B' v d → Q v H') := P
  have hne : chk i ρ ≠ .fail := fun z => by unfold M.bind at P0; simp only [z] at P0; exact P0.elim
  obtain ⟨hck, vo, ev⟩ := L.chk (α := Unit) hne
  unfold M.bind at P0
  simp only [hck] at P0
  refine ⟨vo, ev, hk F ρ σ B H _ L ((Post.bind P0).imp fun k ρ2 B2 H2 e2 L2 P3 u fu => ?_)⟩
  cases q : contR ρ2[i]? with
  | none => simp only [q, Option.bind_none] at P3; exact P3.elim
  | some d =>
    simp only [q, Option.bind_some] at P3
    cases q2 : dIxL d k with
    | none => simp only [q2] at P3; exact P3.elim
    | some z =>
      simp only [q2] at P3
      obtain ⟨B3, _, _, _, hl⟩ := L2.cont q ev
      unfold dIxL at q2
      split at q2
      · obtain ⟨a, vs, rfl, h1, fs⟩ := hl _ rfl
        cases fu
        obtain ⟨v, h3, h4⟩ := fs.atI q2
        exact ⟨a, vs, _, v, rfl, rfl, .inl (.inl h1), h3, P3 B2 H2 (Ex.refl _) L2 v h4⟩
      · cases q2
def scalD : D → Bool
  | .non => true
  | .bl _ => true
  | .int _ => true
  | .str _ => true
  | _ => false
theorem Fz.scal {B B' : Hp} {v : V} {d : D} (h : Fz K B v d) (s : scalD d = true) : Fz K B' v d := by
  cases h with
  | non => exact .non
  | bl b => exact .bl b
  | int i => exact .int i
  | str x => exact .str x
  | lst _ _ => cases s
  | tup _ _ => cases s
  | scr _ => cases s
  | dic _ _ _ => cases s
  | dct _ _ _ => cases s
  | obj _ => cases s
  | key _ => cases s
def mBinL (g : D → D → Option D) (i : Nat) (f2 : M D) : M D := M.bind (chk i) fun _ => M.bind f2 fun y ρ => match (contR ρ[i]?).bind fun d => g d y with
  | some z => if scalD z = true then .ok z ρ else .fail
  | none => .fail
def mLenL (i : Nat) : M D := M.bind (chk i) fun _ ρ => match (contR ρ[i]?).bind fun d => dLen [d] with
  | some z => .ok z ρ
  | none => .fail
theorem dLen_scal {ds : List D} {d : D} (h : dLen ds = some d) : scalD d = true := by
  unfold dLen at h
  split at h
  · injection h with h; subst h; rfl
  · injection h with h; subst h; rfl
  · injection h with h; subst h; rfl
  · split at h
    · cases h
    · injection h with h; subst h; rfl
  · cases h
theorem ev_lenL {i : Nat} {x : Str} {px : Pos} (hm : X.mg "len" = none) (hN : X.N[i]? = some x := by rfl) (hv : Vis X.env.scope x := by first | exact Or.inl rfl | exact Or.inr (Or.inl rfl) | exact Or.inr (Or.inr rfl)) (hd : (x == ("__debug__" : Str)) = false := by decide)
    (hcd : (x == ("__classdict__" : Str)) = false := by decide) (hg : Gl X "len" := by rfl) (he : starEach (.Name x px :: []) X.env = (false, eval (.Name x px) X.env) :: starEach [] X.env := by rfl) : EV X W (.Call (.Name "len" p) [.Name x px] [] pos) (mLenL i) := by
  intro F ρ σ B H Q L P
  refine PE.we (pe_callB call_len hg hm PySem.boot_len (pa_cons (pe_var hN hv hd hcd) pa_nil he) (by decide) (by decide) he rfl) ?_
  have P0 : Post X W F σ B ((M.bind (chk i) fun _ ρ => match (contR ρ[i]?).bind fun d => dLen [d] with
    | some z => .ok z ρ
    | none => Rs.fail) ρ) (fun d _ B' H' => ∀ v, Fz X.K B' v d → Q v H') := P
  have hne : chk i ρ ≠ .fail := fun z => by unfold M.bind at P0; simp only [z] at P0; exact P0.elim
  obtain ⟨hck, vo, ev⟩ := L.chk (α := Unit) hne
  unfold M.bind at P0
  simp only [hck] at P0
  refine ⟨vo, ev, ?_⟩
  cases q : contR ρ[i]? with
  | none => simp only [q, Option.bind_none] at P0; exact P0.elim
  | some d =>
    simp only [q, Option.bind_some] at P0
    cases q2 : dLen [d] with
    | none => simp only [q2] at P0; exact P0.elim
    | some z =>
      simp only [q2] at P0
      obtain ⟨B3, e3, e4, f3, hl⟩ := L.cont q ev
      exact cd_len [vo] [d] z B3 H Q e4 (.cons f3 .nil) q2 ⟨fun v fv => P0 B H (Ex.refl _) L v (fv.scal (dLen_scal q2)), fun p o v hp fv => P0 _ _ (Ex.new (L.ex.nn hp)) (L.alloc hp) v (fv.scal (dLen_scal q2))⟩
theorem lt_line {n : Nat} (h : n < 10000) : n < sizeLine := Nat.lt_of_lt_of_le h (by decide)
end
end Dt
namespace Dt
open PySem PySem.Spec PyProof.Rows L2
abbrev veTail : List Value := [.type "ValueError", .type "Exception", .type "BaseException", .type "object"]
def ExC (K : PySem.W.Frag) (mg : Str → Option Value) (x : Str) : Prop := ∃ C, mg x = some (.ref C) ∧ PySem.W.excIn K C veTail "ValueError.__new__" = true ∧ PySem.W.keepIn K (.ref C) = true ∧
  PySem.W.subIn K (.ref C) (.type "BaseException") = some true ∧ PySem.W.typeIn K (.ref C) = some (.type "type")
theorem sv_raise {X : Cx} {W : WX} {x m : Str} {j : Nat} {p p2 p3 pos : Pos} (hc : X.calm = true) (tk : Takes X W) (T : ExC X.K X.mg x) (hg : Gl X x := by rfl) (hdb : (x == ("__debug__" : Str)) = false := by decide) :
    SV X W (.Raise (some (.Call (.Name x p) [.Constant (.str m) j p2] [] p3)) none pos) (M.raise x) := by
  obtain ⟨C, gC, xC, kC, bC, tC⟩ := T
  intro F ρ σ B H N L P
  refine PS.ws (ps_raise hc tk (pmk_own PySem.F.excBase_ValueError xC gC kC (raises_own bC tC) hg hdb)) ?_
  have h := P σ B H (Ex.refl _) L
  unfold cv at h
  rw [gC] at h
  exact h
def FnIn (K : PySem.W.Frag) (mg : Str → Option Value) (x : Str) (st : Stmt) : Prop := ∃ f fd, Fun K x x st f fd ∧ mg x = some (.ref f)
def Ok (P : Program) (w : World) (K : PySem.W.Frag) (mg : Str → Option Value) (base : Heap) (x : Str) (k n : Nat) (m : Option Nat) (g : List D → Rf) : Prop :=
  ∃ f fd ps, mg x = some (.ref f) ∧ PySem.W.keepIn K (.ref f) = true ∧ Binds K fd ps [] ∧ FnG P w K mg base k f fd ps (spF K mg n m g)
theorem ok_mk {P : Program} {w : World} {K : PySem.W.Frag} {mg : Str → Option Value} {base : Heap} {x : Str} {st : Stmt} {N ps : List Str} {k : Nat} {m : Option Nat} {fb : M Fl} (T : FnIn K mg x st) (S : FnScope N ps (defScope st)) (hps : ps.length ≤ N.length)
    (hb : ∀ (kV doc pm : Value) (an : Option Addr) (cdv ct : Value) (us : List Value), us.length = ps.length → bindArgs (PySem.W.fnOf x x (defArgs st) (defBody st) (defScope st) .none kV doc pm an cdv ct) ⟨us, []⟩ = pure (ps.zip us))
    (hbody : ∀ (f : Addr) (cdv : Value) (A : Around) (outer : List PySem.Env) (s : Shared) (H : Hp) (E : XK), Quiet P base (A.deeper (envOfC x (defScope st) s.heap.objs.size f cdv)) → Room k (A.deeper (envOfC x (defScope st) s.heap.objs.size f cdv)) →
      Takes (cxOf (L2.CX P w) P w K mg base N x (defScope st) f cdv A outer s H E) (fun cls d _ H => E cls d H) →
      PassesOwn (model P w) (A.deeper (envOfC x (defScope st) s.heap.objs.size f cdv)) (envOfC x (defScope st) s.heap.objs.size f cdv) (cxOf (L2.CX P w) P w K mg base N x (defScope st) f cdv A outer s H E).xe →
      SVs (cxOf (L2.CX P w) P w K mg base N x (defScope st) f cdv A outer s H E) (fun cls d _ H => E cls d H) (defBody st) fb) : Ok P w K mg base x (k + 1) ps.length m (runF m N.length fb) := by
  obtain ⟨f, fd, F, hm⟩ := T
  exact ⟨f, fd, ps, hm, F.kp, F.binds hb, fn_def F S hps fun cdv A outer s H E gd hr => hbody f cdv A outer s H E gd hr (takes_of rfl rfl rfl rfl) (passes_of rfl)⟩
theorem ok_at {P : Program} {w : World} {K : PySem.W.Frag} {mg : Str → Option Value} {base : Heap} {x : Str} {st : Stmt} {N ps : List Str} {k : Nat} {m : Option Nat} {fb : M Fl} {f : Addr} {fd : FuncData} (F : Fun K x x st f fd) (S : FnScope N ps (defScope st)) (hps : ps.length ≤ N.length)
    (hbody : ∀ (f : Addr) (cdv : Value) (A : Around) (outer : List PySem.Env) (s : Shared) (H : Hp) (E : XK), Quiet P base (A.deeper (envOfC x (defScope st) s.heap.objs.size f cdv)) → Room k (A.deeper (envOfC x (defScope st) s.heap.objs.size f cdv)) →
      Takes (cxOf (L2.CX P w) P w K mg base N x (defScope st) f cdv A outer s H E) (fun cls d _ H => E cls d H) →
      PassesOwn (model P w) (A.deeper (envOfC x (defScope st) s.heap.objs.size f cdv)) (envOfC x (defScope st) s.heap.objs.size f cdv) (cxOf (L2.CX P w) P w K mg base N x (defScope st) f cdv A outer s H E).xe →
      SVs (cxOf (L2.CX P w) P w K mg base N x (defScope st) f cdv A outer s H E) (fun cls d _ H => E cls d H) (defBody st) fb) : FnG P w K mg base (k + 1) f fd ps (spF K mg ps.length m (runF m N.length fb)) :=
  fn_def F S hps fun cdv A outer s H E gd hr => hbody f cdv A outer s H E gd hr (takes_of rfl rfl rfl rfl) (passes_of rfl)
theorem eo_fn {X : Cx} {W : WX} {x : Str} {k j n : Nat} {m : Option Nat} {g : List D → Rf} {e : Expr} {es : List Expr} {p pos : Pos} {fa : M (List AV)} (G : Ok X.prog X.w X.K X.mg X.base x k n m g) (gd : Quiet X.prog X.base X.A) (hr : Room j X.A) (tk : Takes X W) (ha : EX X W (e :: es) fa) (hk : k ≤ j := by decide) (hg : Gl X x := by rfl) (hdb : (x == ("__debug__" : Str)) = false := by decide)
    (he : starEach (e :: es) X.env = (false, eval e X.env) :: starEach es X.env := by exact star_un rfl) (hpl : (backTo pos (starEach es X.env)).any (·.1) = false := by rfl) : EO X W (.Call (.Name x p) (e :: es) [] pos) (mCallN n m g fa) := by
  obtain ⟨f, fd, ps, hm, kp, hb, G⟩ := G
  exact eo_call G gd (hr.mono hk) tk hm kp hb ha hg hdb he hpl
def spL (K : PySem.W.Frag) (n : Nat) : Sp := fun vs H Q _ => ∃ (a : Addr) (ns : List Int), vs = [.ref a] ∧ SqL K H a (ns.map V.int) ∧ ns.length ≤ n ∧ (∀ z ∈ ns, Builtin.Int.intBits z ≤ 1048576) ∧ ∀ H', Q (.bl true) H'
theorem law_of {P : Program} {w : World} {K : PySem.W.Frag} {mg : Str → Option Value} {base : Heap} {k n : Nat} {f : Addr} {fd : FuncData} {ps : List Str} {g : List D → Rf} (G : FnG P w K mg base k f fd ps (spF K mg 1 none g))
    (h : ∀ ns : List Int, ns.length ≤ n → (∀ z ∈ ns, Builtin.Int.intBits z ≤ 1048576) → g [.scr ns] = .ok (.bl true) .ff .non) : FnG P w K mg base k f fd ps (spL K n) := by
  refine G.imp fun vs H Q E q => ?_
  obtain ⟨a, ns, rfl, hS, hl, hb, q⟩ := q
  refine ⟨H, [.scr ns], 0, Ex.refl _, .fz (.scr hS) .nil, rfl, ?_⟩
  rw [h ns hl hb]
  intro v B' H' _ _ rv
  cases rv
  exact q H'
end Dt
namespace Dt
open PySem PySem.Spec PyProof.Rows L2
def wipeE (ρ : Env) : List Nat → Env
  | [] => ρ
  | v :: vs => (wipeE ρ vs).set v .un
theorem wipeE_len (ρ : Env) : ∀ vs : List Nat, (wipeE ρ vs).length = ρ.length
  | [] => rfl
  | v :: vs => by unfold wipeE; rw [List.length_set, wipeE_len ρ vs]
section
variable {K : PySem.W.Frag} {F : Fr} {ρ ρ' : Env} {σ σ' : St} {B H B' H' : Hp}
theorem Lv.wipe (L : Lv K F ρ σ B H) : ∀ vs : List Nat, Lv K F (wipeE ρ vs) (L2.wipe σ vs) B H
  | [] => L
  | v :: vs => by
    have L1 := Lv.wipe L vs
    unfold wipeE L2.wipe
    generalize wipeE ρ vs = r at *
    generalize L2.wipe σ vs = s at *
    have sg : ∀ {j : Nat}, j ≠ v → (s.set v none)[j]? = s[j]? := fun {j} h => List.getElem?_set_ne (Ne.symm h)
    refine L1.few (by rw [List.length_set, List.length_set]; exact L1.len) (fun j d e1 => ?_) (fun j t e1 w1 => ?_)
    · rcases get_set e1 with ⟨rfl, z, l⟩ | ⟨n, e1⟩
      · cases z
      · rw [sg n]; exact L1.fz j d e1
    · rcases get_set e1 with ⟨rfl, z, l⟩ | ⟨n, e1⟩
      · rw [z] at w1; cases w1
      · exact ⟨e1, sg n⟩
theorem wipeE_get {ρ : Env} {j : Nat} {s : Slot} : ∀ {vs : List Nat}, (wipeE ρ vs)[j]? = some s → s = .un ∨ (j ∉ vs ∧ ρ[j]? = some s)
  | [], e => .inr ⟨by simp, e⟩
  | v :: vs, e => by
    rcases get_set e with ⟨rfl, z, l⟩ | ⟨n, e⟩
    · exact .inl z
    · rcases wipeE_get e with z | ⟨h, z⟩
      · exact .inl z
      · exact .inr ⟨fun q => (List.mem_cons.mp q).elim n h, z⟩
theorem Lv.unwipe {vs : List Nat} (L : Lv K F ρ (L2.wipe σ vs) B H) : Lv K F (wipeE ρ vs) σ B H := by
  have sg : ∀ {j : Nat}, j ∉ vs → (L2.wipe σ vs)[j]? = σ[j]? := fun {j} h => wipe_out h
  have own : ∀ {j : Nat} {s : Slot}, (wipeE ρ vs)[j]? = some s → owned s = true → j ∉ vs ∧ ρ[j]? = some s := fun {j s} e w => by
    rcases wipeE_get e with z | h
    · rw [z] at w; cases w
    · exact h
  refine L.few (by rw [wipeE_len, L.len, wipe_length]) (fun j d e1 => ?_) (fun j t e1 w1 => ?_)
  · rcases wipeE_get e1 with z | ⟨h, e1⟩
    · cases z
    · rw [← sg h]; exact L.fz j d e1
  · obtain ⟨h, e1⟩ := own e1 w1
    exact ⟨e1, (sg h).symm⟩
end
section
variable {X : Cx} {W : WX}
structure Wts (X : Cx) (ifs : List Expr) (σ : St) (H : Hp) (Q : Bool → Hp → Prop) : Prop where
  run : ∀ (pins : List (Addr × Obj)) (s : Shared), Inv X pins σ H s →
  wpAny (model X.prog X.w) X.A (forIn ifs true fun c r => if r = true then do let ok ← isTrue c X.env (eval c X.env); pure (ForInStep.yield ok) else pure (ForInStep.yield r)) (TP X pins σ Q) X.xe s
def wts (X : Cx) (ifs : List Expr) : TT := Wts X ifs
theorem PTs.wts {ifs : List Expr} {t : TT} {σ : St} {H : Hp} {Q : Bool → Hp → Prop} (h : PTs X ifs t) (q : t σ H Q) : wts X ifs σ H Q := Wts.mk fun pins s I => h.run pins s σ H Q I q
def ETs (X : Cx) (W : WX) (ifs : List Expr) (f : M Bool) : Prop := ∀ (F : Fr) (ρ : Env) (σ : St) (B H : Hp) (Q : Bool → Hp → Prop), Lv X.K F ρ σ B H →
  Post X W F σ B (f ρ) (fun b _ _ H' => Q b H') → wts X ifs σ H Q
theorem ets_nil : ETs X W [] (M.pure true) := fun F ρ σ B H Q L P => PTs.wts pts_nil (P B H (Ex.refl _) L)
theorem ets_one {c : Expr} {f : M Bool} (h : ET X W c f) : ETs X W [c] f := fun F ρ σ B H Q L P => PTs.wts (pts_one pt_wt) (h F ρ σ B H Q L P)
end
abbrev W0 : WX := fun _ _ _ _ => False
def mNoR {α : Type} (f : M α) : M α := fun ρ => match f ρ with
  | .ok a ρ' => .ok a ρ'
  | _ => .fail
def mLcL (own : List Nat) (g : D → Env → Option Env) (t : M Bool) (e : M D) : List D → List D → M (List D)
  | [], acc => M.pure acc
  | d :: r, acc => fun ρ => match g d ρ with
    | none => .fail
    | some ρ1 => M.bind (mNoR t) (fun k => match k with
      | false => fun ρ2 => mLcL own g t e r acc (wipeE ρ2 own)
      | true => M.bind (mNoR e) fun y ρ2 => if acc.length < 10000 then mLcL own g t e r (acc ++ [y]) (wipeE ρ2 own) else .fail) ρ1
def mLc (own : List Nat) (f : M (List D)) (g : D → Env → Option Env) (t : M Bool) (e : M D) : M (D × Ob) := M.bind f fun ds ρ => match mLcL own g t e ds [] (wipeE ρ own) with
  | .ok acc ρ2 => .ok (.lst acc, .tt) (wipeE ρ2 own)
  | _ => .fail
def obMk : Ob → D → Option Mk
  | .ff, _ => some .z
  | .tt, .lst _ => some (.l .z)
  | .tt, _ => none
  | .dp m, _ => some m
  | .al, _ => none
noncomputable instance : DecidableEq Mk := fun a b => Classical.propDecidable (a = b)
noncomputable def mLcG (own : List Nat) (g : D → Env → Option Env) (t : M Bool) (e : M (D × Ob)) (m : Mk) : List D → List D → M (List D)
  | [], acc => M.pure acc
  | d :: r, acc => fun ρ => match g d ρ with
    | none => .fail
    | some ρ1 => M.bind (mNoR t) (fun k => match k with
      | false => fun ρ2 => mLcG own g t e m r acc (wipeE ρ2 own)
      | true => M.bind (mNoR e) fun y ρ2 => if acc.length < 10000 ∧ obMk y.2 y.1 = some m then mLcG own g t e m r (acc ++ [y.1]) (wipeE ρ2 own) else .fail) ρ1
noncomputable def mLcD (own : List Nat) (m : Mk) (f : M (List D)) (g : D → Env → Option Env) (t : M Bool) (e : M (D × Ob)) : M (D × Ob) := M.bind f fun ds ρ => match mLcG own g t e m ds [] (wipeE ρ own) with
  | .ok acc ρ2 => .ok (.lst acc, .dp (.l m)) (wipeE ρ2 own)
  | _ => .fail
theorem mLcG_z {own : List Nat} {g : D → Env → Option Env} {t : M Bool} {e : M D} : ∀ (ds acc : List D) (ρ : Env), mLcG own g t (mOf e) .z ds acc ρ = mLcL own g t e ds acc ρ
  | [], acc, ρ => rfl
  | d :: r, acc, ρ => by
    unfold mLcG mLcL
    cases g d ρ with
    | none => rfl
    | some ρ1 =>
      simp only
      unfold M.bind
      cases mNoR t ρ1 with
      | rz c ρ2 => rfl
      | fail => rfl
      | ok k ρ2 =>
        simp only
        cases k with
        | false => exact mLcG_z r acc _
        | true =>
          simp only
          unfold mNoR mOf M.bind
          cases e ρ2 with
          | rz c ρ3 => rfl
          | fail => rfl
          | ok y ρ3 =>
            simp only [M.pure, obMk, and_true]
            split
            · exact mLcG_z r (acc ++ [y]) _
            · rfl
theorem VO.tr {K : PySem.W.Frag} {F : Fr} {ρ : Env} {σ : St} {B H : Hp} {v : V} {d : D} {o : Ob} {m : Mk} (w : VO K F ρ σ B H v d o) (h : obMk o d = some m) : ∃ S, Tr K B H m v d S ∧ S.Nodup ∧ ∀ a ∈ S, (F.A a ∨ F.H0 a = none) ∧ ¬ OwS K B H ρ σ a := by
  cases o with
  | ff => injection h with h; subst h; exact ⟨[], by unfold Tr; exact ⟨w, rfl⟩, .nil, fun a q => nomatch q⟩
  | tt =>
    cases d with
    | lst ds =>
      injection h with h; subst h
      obtain ⟨a, rfl, ⟨hb, vs, hv, fs⟩, g, no⟩ := w
      refine ⟨[a], ?_, by simp, fun b hb => by rw [List.mem_singleton.mp hb]; exact ⟨g, no⟩⟩
      unfold Tr
      refine ⟨a, vs, ds, [], rfl, rfl, hb, hv, ?_, rfl⟩
      have : ∀ {vs : List V} {ds : List D}, Fzs K B vs ds → Its (Tr K B H .z) vs ds [] := fun {vs ds} fs => by
        induction vs generalizing ds with
        | nil => cases fs; exact .nil
        | cons v vs ih =>
          cases fs with
          | cons f fs => exact .cons (S := []) (T := []) (by unfold Tr; exact ⟨f, rfl⟩) (ih fs)
      exact this fs
    | _ => cases h
  | dp m' => injection h with h; subst h; exact w
  | al => cases h
theorem Its.z {K : PySem.W.Frag} {B H : Hp} {vs : List V} {ds : List D} {S : List Addr} (h : Its (Tr K B H .z) vs ds S) : Fzs K B vs ds ∧ S = [] := by
  induction h with
  | nil => exact ⟨.nil, rfl⟩
  | cons a t ih =>
    unfold Tr at a
    exact ⟨.cons a.1 ih.1, by rw [a.2, ih.2]; rfl⟩
theorem VO.flat {K : PySem.W.Frag} {F : Fr} {ρ : Env} {σ : St} {B H : Hp} {v : V} {d : D} (w : VO K F ρ σ B H v d (.dp (.l .z))) : VO K F ρ σ B H v d .tt := by
  obtain ⟨S, t, nd, g⟩ := w
  unfold Tr at t
  obtain ⟨a, vs, ds, T, rfl, rfl, hb, hv, i, rfl⟩ := t
  obtain ⟨fs, rfl⟩ := i.z
  obtain ⟨g1, g2⟩ := g a (by simp)
  exact ⟨a, rfl, ⟨hb, vs, hv, fs⟩, g1, g2⟩
theorem Its.app {R : V → D → List Addr → Prop} {vs : List V} {ds : List D} {S T : List Addr} {v : V} {d : D} (h : Its R vs ds S) (r : R v d T) : Its R (vs ++ [v]) (ds ++ [d]) (S ++ T) := by
  induction h with
  | nil => exact (by simpa using Its.cons r .nil)
  | cons a t ih =>
    rw [List.append_assoc]
    exact .cons a ih
theorem wipe_onl {is vs : List Nat} {σ σ' : St} (h : Onl is (L2.wipe σ vs) σ') (hs : ∀ i ∈ is, i ∈ vs) : L2.wipe σ' vs = L2.wipe σ vs := by
  apply List.ext_getElem?
  intro j
  by_cases hj : j ∈ vs
  · have e : ∀ (τ : St) (ws : List Nat), j ∈ ws → (L2.wipe τ ws)[j]? = if j < τ.length then some none else none := by
      intro τ ws
      induction ws with
      | nil => intro z; cases z
      | cons w ws ih =>
        intro z
        unfold L2.wipe
        by_cases hw : w = j
        · subst hw
          by_cases l : w < τ.length
          · rw [List.getElem?_set_self (by rw [wipe_length]; exact l), if_pos l]
          · rw [List.getElem?_eq_none (by rw [List.length_set, wipe_length]; omega), if_neg l]
        · rw [List.getElem?_set_ne hw]
          exact ih ((List.mem_cons.mp z).resolve_left (fun q => hw q.symm))
    rw [e σ' vs hj, e σ vs hj, h.1, wipe_length]
  · rw [wipe_out hj, h.2 j (fun z => hj (hs j z))]
def gB (X : Cx) (scope : Scope) (tg : Expr) : TG := fun v σ H Q => ∀ (s : Shared) (H0 : Hp) (C : Addr) (cl : List (Str × Addr)) (fp : List Addr), wg (X.blk s H0 scope (compEnvC scope cl C X.env) fp) tg v σ H Q
def tsB (X : Cx) (scope : Scope) (ifs : List Expr) : TT := fun σ H Q => ∀ (s : Shared) (H0 : Hp) (C : Addr) (cl : List (Str × Addr)) (fp : List Addr), wts (X.blk s H0 scope (compEnvC scope cl C X.env) fp) ifs σ H Q
def eB (X : Cx) (scope : Scope) (elt : Expr) : TE := fun σ H Q => ∀ (s : Shared) (H0 : Hp) (C : Addr) (cl : List (Str × Addr)) (fp : List Addr), we (X.blk s H0 scope (compEnvC scope cl C X.env) fp) elt σ H Q
section
variable {X : Cx} {W : WX} {elt tg iter : Expr} {ifs : List Expr} {scope : Scope} {own : List (Str × Nat)} {pos : Pos} {is : List Nat} {f : M (List D)} {g : D → Env → Option Env} {t : M Bool} {e : M D}
theorem lcG_at {m : Mk} {e : M (D × Ob)}
    (hg : ∀ (s : Shared) (H : Hp) (C : Addr) (cl : List (Str × Addr)) (fp : List Addr), GV (X.blk s H scope (compEnvC scope cl C X.env) fp) tg is g)
    (ht : ∀ (s : Shared) (H : Hp) (C : Addr) (cl : List (Str × Addr)) (fp : List Addr), ETs (X.blk s H scope (compEnvC scope cl C X.env) fp) W0 ifs t)
    (he : ∀ (s : Shared) (H : Hp) (C : Addr) (cl : List (Str × Addr)) (fp : List Addr), EO (X.blk s H scope (compEnvC scope cl C X.env) fp) W0 elt e)
    (his : ∀ i ∈ is, i ∈ own.map (·.2)) {F : Fr} {ρ : Env} {σ : St} {B H : Hp} {Q : VK} (hi : ∀ R, Post X W F σ B (f ρ) (fun ds _ B' H' => ∀ J, ItOk X.K J B' ds → R J H') → wi X tg iter σ H R) (L : Lv X.K F ρ σ B H)
    (P : Post X W F σ B (mLcD (own.map (·.2)) m f g t e ρ) (fun p ρ' B' H' => ∀ v, VO X.K F ρ' σ B' H' v p.1 p.2 → Q v H')) : tLc (wi X tg iter) (gB X scope tg) (tsB X scope ifs) (eB X scope elt) (own.map (·.2)) σ H Q := by
  generalize hvs : own.map (·.2) = vs at *
  refine hi _ ((Post.bind P).imp fun ds ρ1 B1 H1 e1 L1 P1 J hJ Dl hD => ?_)
  have Lw : Lv X.K F (wipeE ρ1 vs) (L2.wipe σ vs) B1 H1 := L1.wipe vs
  -- what is wanted of the block's outcome
  let PC : Rs (List D) → Prop := fun r => match r with
    | .ok acc ρ2 => ∀ B' H', Ex B1 B' → Lv X.K F (wipeE ρ2 vs) σ B' H' → ∀ v, VO X.K F (wipeE ρ2 vs) σ B' H' v (.lst acc) (.dp (.l m)) → Q v H'
    | _ => False
  have PC0 : PC (mLcG vs g t e m ds [] (wipeE ρ1 vs)) := by
    have P2 : Post X W F σ B1 ((match mLcG vs g t e m ds [] (wipeE ρ1 vs) with
      | .ok acc ρ2 => .ok (.lst acc, .dp (.l m)) (wipeE ρ2 vs)
      | _ => .fail) : Rs (D × Ob)) _ := P1
    cases q : mLcG vs g t e m ds [] (wipeE ρ1 vs) with
    | ok acc ρ2 => rw [q] at P2; exact fun B' H' e' L' v w => P2 B' H' e' L' v w
    | rz c ρ2 => rw [q] at P2; exact P2.elim
    | fail => rw [q] at P2; exact P2.elim
  have nD0 : ¬ OwS X.K B1 H1 (wipeE ρ1 vs) (L2.wipe σ vs) Dl := fun z => (Lw.hidOw z).2.ne hD
  let G : Fr := ⟨B1, H1, OwS X.K B1 H1 (wipeE ρ1 vs) (L2.wipe σ vs), F.P⟩
  -- the list so far
  let IN : List D → Hp → Prop := fun r H' => ∃ ρ' B' acc xs S, Lv X.K G ρ' (L2.wipe σ vs) B' H' ∧ H' Dl = some (.lst xs) ∧ B' Dl = none ∧ Its (Tr X.K B' H' m) xs acc S ∧ (Dl :: S).Nodup ∧ (∀ a ∈ Dl :: S, (G.A a ∨ G.H0 a = none) ∧ ¬ OwS X.K B' H' ρ' (L2.wipe σ vs) a) ∧ PC (mLcG vs g t e m r acc ρ')
  have IN0 : IN ds (upd H1 Dl (.lst [])) := by
    refine ⟨wipeE ρ1 vs, B1, [], [], [], Lw.nest.allocO hD, upd_same, L1.ex.nn hD, .nil, by simp, fun a ha => ?_, PC0⟩
    rw [List.mem_singleton.mp ha]
    exact ⟨.inr hD, fun z => nD0 (z.chg Lw.nest nD0)⟩
  refine ⟨fun i k H' => k = ds.length - i ∧ i ≤ ds.length ∧ IN (ds.drop i) H', ⟨ds.length, by simp, Nat.zero_le _, IN0⟩, ?_⟩
  rintro i k H2 ⟨rfl, hi2, ρ2, B2, acc, xs, S, M2, hl, hb, fs, nd, ga, P2⟩
  by_cases hlt : i < ds.length
  · refine .inr ⟨hJ.go B2 H2 i M2.exB M2.ex hlt, IN (ds.drop (i + 1)), fun H' q => ⟨ds.length - (i + 1), by omega, rfl, hlt, q⟩, fun x H3 hy => ?_⟩
    rw [List.drop_eq_getElem_cons hlt] at P2
    have hd : ds[i]? = some ds[i] := List.getElem?_eq_getElem hlt
    generalize ds[i] = d at *
    generalize ds.drop (i + 1) = r at *
    have fin : ∀ (B3 : Hp), Ex B2 B3 → Lv X.K G ρ2 (L2.wipe σ vs) B3 H3 → H3 Dl = some (.lst xs) → B3 Dl = none → Its (Tr X.K B3 H3 m) xs acc S → (∀ a ∈ Dl :: S, ¬ OwS X.K B3 H3 ρ2 (L2.wipe σ vs) a) → Fz X.K B3 x d →
        gB X scope tg x (L2.wipe σ vs) H3 fun σ2 H2 => L2.wipe σ2 vs = L2.wipe σ vs ∧ tsB X scope ifs σ2 H2 fun b H3 => if b = true then eB X scope elt σ2 H3 fun y H4 => ∃ acc, H4 Dl = some (.lst acc) ∧ acc.length < sizeLine ∧ IN r (upd H4 Dl (.lst (acc ++ [y]))) else IN r H3 := by
      intro B3 e3 M3 hl3 hb3 fs3 no fx s0 H0 C0 cl0 fp0
      have N3 := M3.nest
      refine hg s0 H0 C0 cl0 fp0 _ ρ2 _ B3 H3 x d _ N3 fx ?_
      have P3 : PC (match g d ρ2 with
        | none => .fail
        | some ρ1 => M.bind (mNoR t) (fun k => match k with
          | false => fun ρ2 => mLcG vs g t e m r acc (wipeE ρ2 vs)
          | true => M.bind (mNoR e) fun y ρ2 => if acc.length < 10000 ∧ obMk y.2 y.1 = some m then mLcG vs g t e m r (acc ++ [y.1]) (wipeE ρ2 vs) else .fail) ρ1) := by
        have P2' := P2
        unfold mLcG at P2'
        exact P2'
      -- what the list so far holds is there
      have thr : ∀ a ∈ Dl :: S, B3 a = none ∧ Ct H3 a := fun a ha => by
        rcases List.mem_cons.mp ha with rfl | ha
        · exact ⟨hb3, .of hl3 fun _ z => nomatch z⟩
        · exact fs3.all (fun v d T r => Tr.hid r) a ha
      cases q : g d ρ2 with
      | none => rw [q] at P3; exact P3.elim
      | some ρ3 =>
        rw [q] at P3
        intro σ4 B4 H4 on4 e4 N4
        have hw : L2.wipe σ4 vs = L2.wipe σ vs := by rw [wipe_onl (is := is) on4 his]
        -- behind the element: wiped, back in the frame
        have back : ∀ {ρ5 : Env} {B5 H5 : Hp}, Lv X.K ⟨B3, H3, OwS X.K B3 H3 ρ2 (L2.wipe σ vs), F.P⟩ ρ5 σ4 B5 H5 → Lv X.K G (wipeE ρ5 vs) (L2.wipe σ vs) B5 H5 ∧ H5 Dl = some (.lst xs) ∧ B5 Dl = none ∧ Its (Tr X.K B5 H5 m) xs acc S ∧ ∀ a ∈ Dl :: S, ¬ OwS X.K B5 H5 (wipeE ρ5 vs) (L2.wipe σ vs) a := by
          intro ρ5 B5 H5 N5
          have M5 := M3.back N5
          have M6 := M5.wipe vs
          rw [hw] at M6
          have kp : ∀ a ∈ Dl :: S, B5 a = none ∧ ∀ o, H3 a = some o → H5 a = some o := fun a ha => ⟨N5.hid a (thr a ha).1 (thr a ha).2 (no a ha), fun o q => N5.kept a o q (no a ha)⟩
          refine ⟨M6, (kp Dl (by simp)).2 _ hl3, (kp Dl (by simp)).1, fs3.imp fun v d T tr sub => tr.keep N5.exB (fun a ha => (kp a (List.mem_cons_of_mem _ (sub a ha))).1) (fun a ha => (kp a (List.mem_cons_of_mem _ (sub a ha))).2), fun a ha ⟨j, s, v, T, e1, q1, f1, m1⟩ => ?_⟩
          rcases wipeE_get e1 with z | ⟨hj, e1⟩
          · rw [z] at f1; exact f1.elim
          · rw [← hw, wipe_out hj] at q1
            rcases N5.ofOw ⟨j, s, v, T, e1, q1, f1, m1⟩ with z | z
            · exact no a ha z
            · exact (thr a ha).2.ne z
        have PP : Post X W0 ⟨B3, H3, OwS X.K B3 H3 ρ2 (L2.wipe σ vs), F.P⟩ σ4 B4 (t ρ3) (fun k ρ5 B5 H5 => Ex B4 B5 ∧ PC ((match k with
          | false => fun ρ2 => mLcG vs g t e m r acc (wipeE ρ2 vs)
          | true => M.bind (mNoR e) fun y ρ2 => if acc.length < 10000 ∧ obMk y.2 y.1 = some m then mLcG vs g t e m r (acc ++ [y.1]) (wipeE ρ2 vs) else .fail) ρ5)) := by
          have P4 : PC (M.bind (mNoR t) _ ρ3) := P3
          unfold M.bind mNoR at P4
          cases q2 : t ρ3 with
          | ok k ρ5 => rw [q2] at P4; exact fun B' H' e' _ => ⟨e', P4⟩
          | rz c ρ5 => rw [q2] at P4; exact P4.elim
          | fail => rw [q2] at P4; exact P4.elim
        refine ⟨hw, fun s1 H01 C1 cl1 fp1 => ht s1 H01 C1 cl1 fp1 _ ρ3 σ4 B4 H4 _ N4 (PP.imp fun k ρ5 B5 H5 e5 N5 ⟨_, P5⟩ => ?_)⟩
        cases k with
        | false =>
          rw [if_neg Bool.false_ne_true]
          obtain ⟨M6, h6, b6, t6, n6⟩ := back N5
          exact ⟨wipeE ρ5 vs, B5, acc, xs, S, M6, h6, b6, t6, nd, fun a ha => ⟨(ga a ha).1, n6 a ha⟩, P5⟩
        | true =>
          rw [if_pos rfl]
          have PE5 : Post X W0 ⟨B3, H3, OwS X.K B3 H3 ρ2 (L2.wipe σ vs), F.P⟩ σ4 B5 (e ρ5) (fun y ρ6 B6 H6 => (acc.length < 10000 ∧ obMk y.2 y.1 = some m) ∧ PC (mLcG vs g t e m r (acc ++ [y.1]) (wipeE ρ6 vs))) := by
            have P6 : PC (M.bind (mNoR e) (fun y ρ2 => if acc.length < 10000 ∧ obMk y.2 y.1 = some m then mLcG vs g t e m r (acc ++ [y.1]) (wipeE ρ2 vs) else .fail) ρ5) := P5
            unfold M.bind mNoR at P6
            cases q2 : e ρ5 with
            | ok y ρ6 =>
              rw [q2] at P6
              intro B' H' e' _
              have P7 : PC (if acc.length < 10000 ∧ obMk y.2 y.1 = some m then mLcG vs g t e m r (acc ++ [y.1]) (wipeE ρ6 vs) else .fail) := P6
              split at P7
              · rename_i hh; exact ⟨hh, P7⟩
              · exact P7.elim
            | rz c ρ6 => rw [q2] at P6; exact P6.elim
            | fail => rw [q2] at P6; exact P6.elim
          intro s2 H02 C2 cl2 fp2
          refine he s2 H02 C2 cl2 fp2 _ ρ5 σ4 B5 H5 _ N5 (PE5.imp fun y ρ6 B6 H6 e6 N6 ⟨hz, P7⟩ v vo => ?_)
          obtain ⟨M6, h6, b6, t6, n6⟩ := back N6
          obtain ⟨T, tr, ndT, gT⟩ := VO.tr vo hz.2
          -- what is new is apart from the list so far
          have ap : ∀ a ∈ T, a ∉ Dl :: S := fun a ha hs => by
            rcases (gT a ha).1 with z | z
            · exact no a hs z
            · exact (thr a hs).2.ne z
          have nT : ∀ a ∈ T, ¬ OwS X.K B6 H6 (wipeE ρ6 vs) (L2.wipe σ vs) a := fun a ha ⟨j, s, u, U, e1, q1, f1, m1⟩ => by
            rcases wipeE_get e1 with z | ⟨hj, e1⟩
            · rw [z] at f1; exact f1.elim
            · rw [← hw, wipe_out hj] at q1
              exact (gT a ha).2 ⟨j, s, u, U, e1, q1, f1, m1⟩
          have nD := n6 Dl (by simp)
          have M7 := M6.hidW0 (o := .lst (xs ++ [v])) b6 (ga Dl (by simp)).1 nD
          have kD : ∀ a, a ≠ Dl → ∀ o, H6 a = some o → upd H6 Dl (.lst (xs ++ [v])) a = some o := fun a n o q => by rw [upd_ne n]; exact q
          have nd1 := List.nodup_cons.mp nd
          refine ⟨xs, h6, lt_line (by rw [t6.len]; exact hz.1), wipeE ρ6 vs, B6, acc ++ [y.1], xs ++ [v], S ++ T, M7, upd_same, b6, Its.app (t6.imp fun w d U tr sub => tr.keep (Ex.refl _) (fun a ha => (tr.hid a ha).1) (fun a ha => kD a fun z => nd1.1 (z ▸ sub a ha))) (tr.keep (Ex.refl _) (fun a ha => (tr.hid a ha).1) (fun a ha => kD a fun z => ap a ha (by rw [z]; simp))), ?_, fun a ha => ?_, P7⟩
          · rw [← List.cons_append]
            exact List.nodup_append.mpr ⟨nd, ndT, fun a ha b hb z => ap b hb (z ▸ ha)⟩
          · rw [← List.cons_append] at ha
            rcases List.mem_append.mp ha with ha | ha
            · exact ⟨(ga a ha).1, fun z => n6 a ha (z.chg M6 nD)⟩
            · refine ⟨?_, fun z => nT a ha (z.chg M6 nD)⟩
              rcases (gT a ha).1 with z | z
              · exact M3.ofOw z
              · exact .inr (M3.free z)
    rcases hJ.yld B2 H2 i x H3 _ M2.exB M2.ex hy hd with ⟨rfl, fx⟩ | ⟨p, o, hp2, rfl, fx⟩ | ⟨p, ys, hp2, hp3, rfl, fx⟩
    · exact fin B2 (Ex.refl _) M2 hl hb fs (fun a ha => (ga a ha).2) fx
    · have th : ∀ a ∈ Dl :: S, B2 a = none ∧ Ct H2 a := fun a ha => by
        rcases List.mem_cons.mp ha with rfl | ha
        · exact ⟨hb, .of hl fun _ z => nomatch z⟩
        · exact fs.all (fun v d T r => Tr.hid r) a ha
      have np : ∀ a ∈ Dl :: S, a ≠ p := fun a ha z => (th a ha).2.ne (z ▸ hp2)
      have npo : ¬ OwS X.K B2 H2 ρ2 (L2.wipe σ vs) p := fun z => (M2.hidOw z).2.ne hp2
      have nB := M2.ex.nn hp2
      refine fin _ (Ex.new nB) (M2.alloc hp2) (by rw [upd_ne (np Dl (by simp))]; exact hl) (by rw [upd_ne (np Dl (by simp))]; exact hb) (fs.imp fun v d T tr sub => tr.keep (Ex.new nB) (fun a ha => by rw [upd_ne (np a (List.mem_cons_of_mem _ (sub a ha)))]; exact (tr.hid a ha).1) (fun a ha o q => by rw [upd_ne (np a (List.mem_cons_of_mem _ (sub a ha)))]; exact q)) (fun a ha z => (ga a ha).2 (z.back M2 (Ex.new nB) fun b w => ?_)) fx
      have nbp : b ≠ p := fun z => npo (z ▸ w)
      exact ⟨by rw [upd_ne nbp]; exact (M2.hidOw w).1, fun u q => by rw [upd_ne nbp]; exact q⟩
    · have th : ∀ a ∈ Dl :: S, B2 a = none ∧ Ct H3 a := fun a ha => by
        rcases List.mem_cons.mp ha with rfl | ha
        · exact ⟨hb, .of hl fun _ z => nomatch z⟩
        · exact fs.all (fun v d T r => Tr.hid r) a ha
      have nt : ∀ a, Ct H3 a → a ≠ p := fun a ⟨u, h1, h2⟩ z => by subst z; rw [hp2] at h1; injection h1 with h1; exact h2 _ h1.symm
      have np : ∀ a ∈ Dl :: S, a ≠ p := fun a ha => nt a (th a ha).2
      refine fin _ (Ex.new hp3) (M2.freezeT hp2 hp3) hl (by rw [upd_ne (np Dl (by simp))]; exact hb) (fs.imp fun v d T tr sub => tr.keep (Ex.new hp3) (fun a ha => by rw [upd_ne (np a (List.mem_cons_of_mem _ (sub a ha)))]; exact (tr.hid a ha).1) (fun a ha o q => q)) (fun a ha z => (ga a ha).2 (z.back M2 (Ex.new hp3) fun b w => ?_)) fx
      exact ⟨by rw [upd_ne (nt b (M2.hidOw w).2)]; exact (M2.hidOw w).1, fun u q => q⟩
  · have ei : i = ds.length := by omega
    subst ei
    rw [List.drop_length] at P2
    refine .inl ⟨hJ.stop B2 H2 _ M2.exB M2.ex (Nat.le_refl _), ?_⟩
    have M3 := Lw.back M2
    have M4 := M3.unwipe
    refine P2 B2 H2 M2.exB M4 _ ⟨Dl :: S, ?_, nd, fun a ha => ⟨?_, fun ⟨j, s, v, T, e1, q1, f1, m1⟩ => ?_⟩⟩
    · unfold Tr; exact ⟨Dl, xs, acc, S, rfl, rfl, hb, hl, fs, rfl⟩
    · rcases (ga a ha).1 with z | z
      · exact Lw.ofOw z
      · exact .inr (Lw.free z)
    · rcases wipeE_get e1 with z | ⟨hj, e1⟩
      · rw [z] at f1; exact f1.elim
      · rw [← wipe_out hj] at q1
        exact (ga a ha).2 ⟨j, s, v, T, e1, q1, f1, m1⟩
theorem lcG_read {m : Mk} {e : M (D × Ob)} (hi : IV X W tg iter f)
    (hg : ∀ (s : Shared) (H : Hp) (C : Addr) (cl : List (Str × Addr)) (fp : List Addr), GV (X.blk s H scope (compEnvC scope cl C X.env) fp) tg is g)
    (ht : ∀ (s : Shared) (H : Hp) (C : Addr) (cl : List (Str × Addr)) (fp : List Addr), ETs (X.blk s H scope (compEnvC scope cl C X.env) fp) W0 ifs t)
    (he : ∀ (s : Shared) (H : Hp) (C : Addr) (cl : List (Str × Addr)) (fp : List Addr), EO (X.blk s H scope (compEnvC scope cl C X.env) fp) W0 elt e)
    (his : ∀ i ∈ is, i ∈ own.map (·.2)) {F : Fr} {ρ : Env} {σ : St} {B H : Hp} {Q : VK} (L : Lv X.K F ρ σ B H)
    (P : Post X W F σ B (mLcD (own.map (·.2)) m f g t e ρ) (fun p ρ' B' H' => ∀ v, VO X.K F ρ' σ B' H' v p.1 p.2 → Q v H')) : tLc (wi X tg iter) (gB X scope tg) (tsB X scope ifs) (eB X scope elt) (own.map (·.2)) σ H Q :=
  lcG_at hg ht he his (fun R P => hi F ρ σ B H R L P) L P
theorem lc_at
    (hg : ∀ (s : Shared) (H : Hp) (C : Addr) (cl : List (Str × Addr)) (fp : List Addr), GV (X.blk s H scope (compEnvC scope cl C X.env) fp) tg is g)
    (ht : ∀ (s : Shared) (H : Hp) (C : Addr) (cl : List (Str × Addr)) (fp : List Addr), ETs (X.blk s H scope (compEnvC scope cl C X.env) fp) W0 ifs t)
    (he : ∀ (s : Shared) (H : Hp) (C : Addr) (cl : List (Str × Addr)) (fp : List Addr), EV (X.blk s H scope (compEnvC scope cl C X.env) fp) W0 elt e)
    (his : ∀ i ∈ is, i ∈ own.map (·.2)) {F : Fr} {ρ : Env} {σ : St} {B H : Hp} {Q : VK} (hi : ∀ R, Post X W F σ B (f ρ) (fun ds _ B' H' => ∀ J, ItOk X.K J B' ds → R J H') → wi X tg iter σ H R) (L : Lv X.K F ρ σ B H)
    (P : Post X W F σ B (mLc (own.map (·.2)) f g t e ρ) (fun p ρ' B' H' => ∀ v, VO X.K F ρ' σ B' H' v p.1 p.2 → Q v H')) : tLc (wi X tg iter) (gB X scope tg) (tsB X scope ifs) (eB X scope elt) (own.map (·.2)) σ H Q := by
  refine lcG_at (m := .z) (e := mOf e) hg ht (fun s H C cl fp => eo_of (he s H C cl fp)) his hi L ?_
  unfold mLc M.bind at P
  unfold mLcD M.bind
  cases q : f ρ with
  | fail => rw [q] at P; exact P.elim
  | rz c ρ1 => rw [q] at P; exact P
  | ok ds ρ1 =>
    rw [q] at P
    simp only [mLcG_z] at P ⊢
    cases q2 : mLcL (own.map (·.2)) g t e ds [] (wipeE ρ1 (own.map (·.2))) with
    | ok acc ρ2 => rw [q2] at P; exact fun B' H' e' L' v w => P B' H' e' L' v w.flat
    | rz c ρ2 => rw [q2] at P; exact P.elim
    | fail => rw [q2] at P; exact P.elim
theorem lc_read (hi : IV X W tg iter f)
    (hg : ∀ (s : Shared) (H : Hp) (C : Addr) (cl : List (Str × Addr)) (fp : List Addr), GV (X.blk s H scope (compEnvC scope cl C X.env) fp) tg is g)
    (ht : ∀ (s : Shared) (H : Hp) (C : Addr) (cl : List (Str × Addr)) (fp : List Addr), ETs (X.blk s H scope (compEnvC scope cl C X.env) fp) W0 ifs t)
    (he : ∀ (s : Shared) (H : Hp) (C : Addr) (cl : List (Str × Addr)) (fp : List Addr), EV (X.blk s H scope (compEnvC scope cl C X.env) fp) W0 elt e)
    (his : ∀ i ∈ is, i ∈ own.map (·.2)) {F : Fr} {ρ : Env} {σ : St} {B H : Hp} {Q : VK} (L : Lv X.K F ρ σ B H)
    (P : Post X W F σ B (mLc (own.map (·.2)) f g t e ρ) (fun p ρ' B' H' => ∀ v, VO X.K F ρ' σ B' H' v p.1 p.2 → Q v H')) : tLc (wi X tg iter) (gB X scope tg) (tsB X scope ifs) (eB X scope elt) (own.map (·.2)) σ H Q :=
  lc_at hg ht he his (fun R P => hi F ρ σ B H R L P) L P
theorem eo_lc (hc : X.calm = true) (hN : X.N.Nodup) (hi : IV X W tg iter f) (ok : BlkOk X.N X.env.scope scope own)
    (hg : ∀ (s : Shared) (H : Hp) (C : Addr) (cl : List (Str × Addr)) (fp : List Addr), GV (X.blk s H scope (compEnvC scope cl C X.env) fp) tg is g)
    (ht : ∀ (s : Shared) (H : Hp) (C : Addr) (cl : List (Str × Addr)) (fp : List Addr), ETs (X.blk s H scope (compEnvC scope cl C X.env) fp) W0 ifs t)
    (he : ∀ (s : Shared) (H : Hp) (C : Addr) (cl : List (Str × Addr)) (fp : List Addr), EV (X.blk s H scope (compEnvC scope cl C X.env) fp) W0 elt e)
    (his : ∀ i ∈ is, i ∈ own.map (·.2) := by decide) (hs : ∀ x, foldedSetIterable iter X.env x = pure x := by intro _; rfl) : EO X W (.ListComp elt [⟨tg, iter, ifs, 0⟩] scope pos) (mLc (own.map (·.2)) f g t e) := by
  intro F ρ σ B H Q L P
  exact PE.we (pe_lc (g := gB X scope tg) (tt := tsB X scope ifs) (te := eB X scope elt) hc hN pi_wi ok (fun s H0 C cl fp => ⟨fun pins s' σ H v u Q I r h => Wg.run (h s H0 C cl fp) pins s' u I r⟩) (fun s H0 C cl fp => ⟨fun pins s' σ H Q I h => Wts.run (h s H0 C cl fp) pins s' I⟩) (fun s H0 C cl fp => ⟨fun pins s' σ H Q I h => We.run (h s H0 C cl fp) pins s' I⟩) hs) (lc_read hi hg ht he his L P)
theorem sv_setLc {i : Nat} {y : Str} {py spos : Pos} (hc : X.calm = true) (hN : X.N.Nodup) (hi : IV X W tg iter f) (ok : BlkOk X.N X.env.scope scope own)
    (hg : ∀ (s : Shared) (H : Hp) (C : Addr) (cl : List (Str × Addr)) (fp : List Addr), GV (X.blk s H scope (compEnvC scope cl C X.env) fp) tg is g)
    (ht : ∀ (s : Shared) (H : Hp) (C : Addr) (cl : List (Str × Addr)) (fp : List Addr), ETs (X.blk s H scope (compEnvC scope cl C X.env) fp) W0 ifs t)
    (he : ∀ (s : Shared) (H : Hp) (C : Addr) (cl : List (Str × Addr)) (fp : List Addr), EV (X.blk s H scope (compEnvC scope cl C X.env) fp) W0 elt e)
    (hsw : swapsWith (.ListComp elt [⟨tg, iter, ifs, 0⟩] scope pos) (some (.Name y py)) spos.line X.env = pure true)
    (hy : X.N[i]? = some y := by rfl) (hyl : X.env.scope.names.lookup y = some .local := by rfl)
    (his : ∀ i ∈ is, i ∈ own.map (·.2) := by decide) (hs : ∀ x, foldedSetIterable iter X.env x = pure x := by intro _; rfl) : SV X W (.Assign [.Name y py] (.ListComp elt [⟨tg, iter, ifs, 0⟩] scope pos) spos) (mSet i (mLc (own.map (·.2)) f g t e)) := by
  intro F ρ σ B H N L P
  refine PS.ws (ps_setLc (g := gB X scope tg) (tt := tsB X scope ifs) (te := eB X scope elt) hc hN hy hyl hsw pi_wi ok (fun s H0 C cl fp => ⟨fun pins s' σ H v u Q I r h => Wg.run (h s H0 C cl fp) pins s' u I r⟩) (fun s H0 C cl fp => ⟨fun pins s' σ H Q I h => Wts.run (h s H0 C cl fp) pins s' I⟩) (fun s H0 C cl fp => ⟨fun pins s' σ H Q I h => We.run (h s H0 C cl fp) pins s' I⟩) hs) ?_
  exact lc_read hi hg ht he his L ((PostS.bind P).imp fun p ρ1 B1 H1 e1 L1 P1 v w => P1.put L1 w)
theorem sv_setLcD {m : Mk} {e : M (D × Ob)} {i : Nat} {y : Str} {py spos : Pos} (hc : X.calm = true) (hN : X.N.Nodup) (hi : IV X W tg iter f) (ok : BlkOk X.N X.env.scope scope own)
    (hg : ∀ (s : Shared) (H : Hp) (C : Addr) (cl : List (Str × Addr)) (fp : List Addr), GV (X.blk s H scope (compEnvC scope cl C X.env) fp) tg is g)
    (ht : ∀ (s : Shared) (H : Hp) (C : Addr) (cl : List (Str × Addr)) (fp : List Addr), ETs (X.blk s H scope (compEnvC scope cl C X.env) fp) W0 ifs t)
    (he : ∀ (s : Shared) (H : Hp) (C : Addr) (cl : List (Str × Addr)) (fp : List Addr), EO (X.blk s H scope (compEnvC scope cl C X.env) fp) W0 elt e)
    (hsw : swapsWith (.ListComp elt [⟨tg, iter, ifs, 0⟩] scope pos) (some (.Name y py)) spos.line X.env = pure true)
    (hy : X.N[i]? = some y := by rfl) (hyl : X.env.scope.names.lookup y = some .local := by rfl)
    (his : ∀ i ∈ is, i ∈ own.map (·.2) := by decide) (hs : ∀ x, foldedSetIterable iter X.env x = pure x := by intro _; rfl) : SV X W (.Assign [.Name y py] (.ListComp elt [⟨tg, iter, ifs, 0⟩] scope pos) spos) (mSet i (mLcD (own.map (·.2)) m f g t e)) := by
  intro F ρ σ B H N L P
  refine PS.ws (ps_setLc (g := gB X scope tg) (tt := tsB X scope ifs) (te := eB X scope elt) hc hN hy hyl hsw pi_wi ok (fun s H0 C cl fp => ⟨fun pins s' σ H v u Q I r h => Wg.run (h s H0 C cl fp) pins s' u I r⟩) (fun s H0 C cl fp => ⟨fun pins s' σ H Q I h => Wts.run (h s H0 C cl fp) pins s' I⟩) (fun s H0 C cl fp => ⟨fun pins s' σ H Q I h => We.run (h s H0 C cl fp) pins s' I⟩) hs) ?_
  exact lcG_read hi hg ht he his L ((PostS.bind P).imp fun p ρ1 B1 H1 e1 L1 P1 v w => P1.put L1 w)
end
end Dt
namespace Dt
open PySem PySem.Spec PyProof.Rows L2
section
variable {X : Cx} {W : WX} {e a b c : Expr} {pos : Pos} {K : PySem.W.Frag}
def CnIn (K : PySem.W.Frag) (mg : Str → Option Value) (x : Str) (d : D) : Prop := ∃ u v, mg x = some u ∧ RelV v u ∧ ∀ B, Fz K B v d
theorem ev_const {x : Str} {d : D} (T : CnIn X.K X.mg x d) (hg : Gl X x := by rfl) (hd : (x == ("__debug__" : Str)) = false := by decide) : EV X W (.Name x pos) (M.pure d) := by
  obtain ⟨u, v, hm, r, hf⟩ := T
  exact ev_glob hg hm r hf hd
theorem cn_int {mg : Str → Option Value} {x : Str} {i : Int} {t : Tok} (h : mg x = some (.int i t)) : CnIn K mg x (.int i) := ⟨_, .int i, h, ⟨t, rfl⟩, fun _ => .int i⟩
theorem cn_str {mg : Str → Option Value} {x s : Str} {t : Tok} (h : mg x = some (.str s t)) : CnIn K mg x (.str s) := ⟨_, .str s, h, ⟨t, rfl⟩, fun _ => .str s⟩
inductive Flats : List Value → List D → Prop
  | nil : Flats [] []
  | int {i : Int} {t : Tok} {us : List Value} {ds : List D} : Flats us ds → Flats (.int i t :: us) (.int i :: ds)
  | str {x : Str} {t : Tok} {us : List Value} {ds : List D} : Flats us ds → Flats (.str x t :: us) (.str x :: ds)
theorem Flats.go {K : PySem.W.Frag} : ∀ {us : List Value} {ds : List D}, Flats us ds → ∃ vs, Vals vs us ∧ ∀ B, Fzs K B vs ds
  | _, _, .nil => ⟨[], .nil, fun _ => .nil⟩
  | _, _, .int (i := i) (t := t) r => by
    obtain ⟨vs, h1, h2⟩ := Flats.go (K := K) r
    exact ⟨.int i :: vs, .cons ⟨t, rfl⟩ h1, fun B => .cons (.int i) (h2 B)⟩
  | _, _, .str (x := x) (t := t) r => by
    obtain ⟨vs, h1, h2⟩ := Flats.go (K := K) r
    exact ⟨.str x :: vs, .cons ⟨t, rfl⟩ h1, fun B => .cons (.str x) (h2 B)⟩
theorem cn_tup {mg : Str → Option Value} {x : Str} {p : Addr} {od : Option Addr} {us : List Value} {n : Nat} {sl : Array (Option Value)} {ds : List D} (h : mg x = some (.ref p)) (l : K.lookup p = some ⟨.type "tuple", od, .seq us.toArray n, sl⟩) (hz : us.length ≤ 1000) (fl : Flats us ds) : CnIn K mg x (.tup ds) := by
  obtain ⟨vs, h1, h2⟩ := Flats.go (K := K) fl
  exact ⟨_, .ref p, h, rfl, fun B => .tup (.inr ⟨_, us.toArray, n, l, rfl, rfl, by rw [List.size_toArray]; exact Nat.le_trans hz (by decide), by simpa using h1⟩) (h2 B)⟩
theorem ev_chain {op op' : CmpOp} {r r' : R2} {g g' : D → D → Option D} {f1 f2 f3 : M D} (ho : OpR X (compareOp op) r) (hr : OpD X.K r g) (ho' : OpR X (compareOp op') r') (hr' : OpD X.K r' g') (ha : EV X W a f1) (hb : EV X W b f2) (hc : EV X W c f3)
    (hm : lastMarks [op, op'] [b, c] = false := by with_unfolding_all rfl) : EV X W (.Compare a [op, op'] [b, c] pos) (mChain g g' f1 f2 f3) := by
  intro F ρ σ B H Q L P
  refine PE.we (pe_chain ho ho' pe_we pe_we pe_we hm) ?_
  refine ha F ρ σ B H _ L ((Post.bind P).imp fun dx ρ1 B1 H1 e1 L1 P1 x fx => ?_)
  refine hb F ρ1 σ B1 H1 _ L1 ((Post.bind P1).imp fun dy ρ2 B2 H2 e2 L2 P2 y fy => ?_)
  obtain ⟨z, hz, k⟩ := (Post.bind P2).opt
  refine hr x y dx dy z B2 H2 _ L2.ex (fx.mono e2) fy hz (L2.grow fun B' H' e' L' v fv => ?_)
  have P3 := k B' H' e' L'
  split at P3
  · cases fv
    refine ⟨true, rfl, ?_⟩
    rw [if_pos rfl]
    refine hc F ρ2 σ B' H' _ L' ((Post.bind P3).imp fun dw ρ3 B3 H3 e3 L3 P4 w fw => ?_)
    obtain ⟨d, hd, k2⟩ := P4.opt
    exact hr' y w dy dw d B3 H3 Q L3.ex ((fy.mono e').mono e3) fw hd (L3.grow k2)
  · cases fv
    refine ⟨false, rfl, ?_⟩
    rw [if_neg Bool.false_ne_true]
    exact P3 B' H' (Ex.refl _) L' _ (.bl false)
  · exact P3.elim
theorem et_cmpL {op : CmpOp} {r : R2} {g : D → D → Option D} {i : Nat} {x : Str} {px : Pos} {f2 : M D} (ho : OpR X (compareOp op) r) (hr : OpD X.K r g) (hb : EV X W b f2) (hN : X.N[i]? = some x := by rfl) (hv : Vis X.env.scope x := by first | exact Or.inl rfl | exact Or.inr (Or.inl rfl) | exact Or.inr (Or.inr rfl)) (hd : (x == ("__debug__" : Str)) = false := by decide)
    (hcd : (x == ("__classdict__" : Str)) = false := by decide) (hm : behindInMarks op b = false := by first | exact nomark _ | rfl) : ET X W (.Compare (.Name x px) [op] [b] pos) (mTest (mBinL g i f2)) := by
  intro F ρ σ B H Q L P
  refine PT.wt (pt_cmpR ho (pe_var hN hv hd hcd) pe_we hm) ?_
  have P0 := Post.bind P
  have P0' : Post X W F σ B ((M.bind (chk i) fun _ => M.bind f2 fun y ρ => match (contR ρ[i]?).bind fun d => g d y with
    | some z => if scalD z = true then .ok z ρ else .fail
    | none => Rs.fail) ρ) _ := P0
  have hne : chk i ρ ≠ .fail := fun z => by unfold M.bind at P0'; simp only [z] at P0'; exact P0'.elim
  obtain ⟨hck, vo, ev⟩ := L.chk (α := Unit) hne
  unfold M.bind at P0'
  simp only [hck] at P0'
  refine ⟨vo, ev, hb F ρ σ B H _ L ((Post.bind P0').imp fun k ρ2 B2 H2 e2 L2 P3 u fu => ?_)⟩
  cases q : contR ρ2[i]? with
  | none => simp only [q, Option.bind_none] at P3; exact P3.elim
  | some d =>
    simp only [q, Option.bind_some] at P3
    cases q2 : g d k with
    | none => simp only [q2] at P3; exact P3.elim
    | some z =>
      simp only [q2] at P3
      split at P3
      · rename_i hz
        obtain ⟨B3, e3, e4, f3, hl⟩ := L2.cont q ev
        refine hr vo u d k z B3 H2 _ e4 f3 (fu.mono e3) q2 ⟨fun v fv => ?_, fun p o v hp fv => ?_⟩
        · obtain ⟨kk, hk, qq⟩ := (P3 B2 H2 (Ex.refl _) L2).opt
          exact ⟨kk, fv.bl_inv hk, qq B2 H2 (Ex.refl _) L2⟩
        · obtain ⟨kk, hk, qq⟩ := (P3 _ _ (Ex.new (L2.ex.nn hp)) (L2.alloc hp)).opt
          exact ⟨kk, fv.bl_inv hk, qq _ _ (Ex.refl _) (L2.alloc hp)⟩
      · exact P3.elim
def cutD (xs : List D) (lo hi : Option Int) : List D := (xs.drop (HT.sIx xs.length 0 lo)).take (HT.sIx xs.length xs.length hi - HT.sIx xs.length 0 lo)
theorem Fzs.cut {B : Hp} {vs : List V} {ds : List D} (h : Fzs K B vs ds) (lo hi : Option Int) : Fzs K B (cutV vs lo hi) (cutD ds lo hi) := by
  unfold cutV cutD
  rw [h.len]
  exact (h.drop _).take _
def asOI : Option D → Option (Option Int)
  | none => some none
  | some (.int i) => some (some i)
  | some _ => none
def mPart (f : Option (M D)) : M (Option Int) := match f with
  | none => M.pure none
  | some f => M.bind f fun d => M.opt (match d with
    | .int i => some (some i)
    | _ => none)
def EP' (X : Cx) (W : WX) (e : Option Expr) (f : M (Option Int)) : Prop := ∃ t, PO X e t ∧ ∀ (F : Fr) (ρ : Env) (σ : St) (B H : Hp) (Q : Option Int → Hp → Prop), Lv X.K F ρ σ B H → Post X W F σ B (f ρ) (fun o _ _ H' => Q o H') → t σ H Q
theorem ep_none : EP' X W none (mPart none) := ⟨_, po_none, fun F ρ σ B H Q L P => P B H (Ex.refl _) L⟩
theorem ep_some {f : M D} (h : EV X W e f) : EP' X W (some e) (mPart (some f)) := ⟨_, po_some pe_we, fun F ρ σ B H Q L P => by
  refine h F ρ σ B H _ L ((Post.bind P).imp fun d ρ1 B1 H1 e1 L1 P1 v fv => ?_)
  obtain ⟨o, ho, k⟩ := P1.opt
  split at ho
  · cases fv
    injection ho with ho; subst ho
    exact ⟨_, rfl, k B1 H1 (Ex.refl _) L1⟩
  · cases ho⟩
def dSl (d : D) (lo hi : Option Int) : Option (D × Ob) := match d with
  | .lst xs => some (.lst (cutD xs lo hi), .tt)
  | .tup xs => some (.tup (cutD xs lo hi), .ff)
  | _ => none
def mSl (f : M D) (fl fh : M (Option Int)) : M (D × Ob) := M.bind f fun d => M.bind fl fun lo => M.bind fh fun hi => M.opt (dSl d lo hi)
theorem cut_all {xs : List D} {lo hi : Option Int} (h : HT.sIx xs.length 0 lo = 0 ∧ HT.sIx xs.length xs.length hi = xs.length) : cutD xs lo hi = xs := by
  unfold cutD
  rw [h.1, h.2, List.drop_zero, Nat.sub_zero, List.take_length]
theorem eo_slice {lo hi : Option Expr} {p2 : Pos} {f : M D} {fl fh : M (Option Int)} (he : EV X W e f) (hl : EP' X W lo fl) (hh : EP' X W hi fh) : EO X W (.Subscript e (.Slice lo hi none p2) pos) (mSl f fl fh) := by
  obtain ⟨tl, pl, hl⟩ := hl
  obtain ⟨th, ph, hh⟩ := hh
  intro F ρ σ B H Q L P
  refine PE.we (pe_slice (sl_list.or sl_tupA) pe_we pl ph) ?_
  refine he F ρ σ B H _ L ((Post.bind P).imp fun d ρ1 B1 H1 e1 L1 P1 v fv => ?_)
  refine hl F ρ1 σ B1 H1 _ L1 ((Post.bind P1).imp fun l ρ2 B2 H2 e2 L2 P2 => ?_)
  refine hh F ρ2 σ B2 H2 _ L2 ((Post.bind P2).imp fun u ρ3 B3 H3 e3 L3 P3 => ?_)
  obtain ⟨p, hp, k⟩ := P3.opt
  have fv3 := (fv.mono e2).mono e3
  cases fv3 with
  | @lst a xs ds h fs =>
    injection hp with hp; subst hp
    refine .inl ⟨a, xs, rfl, .inl (.inl (L3.ex _ _ h)), fun q hq => ?_⟩
    obtain ⟨L4, v4⟩ := L3.newL hq (fs.cut l u)
    exact k B3 _ (Ex.refl _) L4 _ v4
  | @tup a xs ds h fs =>
    injection hp with hp; subst hp
    refine .inr ⟨a, xs, rfl, L3.ex.st h, fun hw => ?_, fun _ q hq => ?_⟩
    · have e : cutD ds l u = ds := cut_all (by rw [← fs.len]; exact hw)
      rw [e] at k
      exact k B3 H3 (Ex.refl _) L3 _ (show Fz X.K B3 (.ref a) (.tup ds) from .tup h fs)
    · exact k _ _ (Ex.new (L3.ex.nn hq)) (L3.alloc hq) _ (show Fz X.K _ (.ref q) _ from .tup (.inl (.inl upd_same)) ((fs.cut l u).mono (Ex.new (L3.ex.nn hq))))
  | _ => cases hp
def mRevL (f : M D) : M (D × Ob) := M.bind f fun d => M.opt (match d with
  | .lst xs => some (.lst xs.reverse, .tt)
  | _ => none)
variable {tg : Expr}
def mZip (f : M (List D)) : M (List D) := M.bind f fun ds => M.opt (match ds with
  | [.lst xs, .lst ys] => some (List.zipWith (fun x y => D.tup [x, y]) xs ys)
  | _ => none)
theorem it_zip {p q : Addr} {xs ys : List V} {B : Hp} {ds es : List D} (h1 : B p = some (.lst xs)) (f1 : Fzs K B xs ds) (h2 : B q = some (.lst ys)) (f2 : Fzs K B ys es) : ItOk K (Itz K p q) B (List.zipWith (fun x y => D.tup [x, y]) ds es) where
  go := fun B' H' i e1 e2 hi => by
    rw [List.length_zipWith] at hi
    have hi1 : i < xs.length := by rw [f1.len]; omega
    have hi2 : i < ys.length := by rw [f2.len]; omega
    exact ⟨xs, ys, xs[i], ys[i], .inl (.inl (e2 _ _ (e1 _ _ h1))), .inl (.inl (e2 _ _ (e1 _ _ h2))), List.getElem?_eq_getElem hi1, List.getElem?_eq_getElem hi2⟩
  stop := fun B' H' i e1 e2 hi => by
    rw [List.length_zipWith] at hi
    refine ⟨xs, ys, .inl (.inl (e2 _ _ (e1 _ _ h1))), .inl (.inl (e2 _ _ (e1 _ _ h2))), ?_⟩
    rw [f1.len, f2.len]; omega
  yld := fun B' H' i x H3 d e1 e2 y hd => by
    obtain ⟨T, u, v, rfl, hT, rfl, hu, hv⟩ := y
    have h3 := hu xs (.inl (.inl (e2 _ _ (e1 _ _ h1))))
    have h4 := hv ys (.inl (.inl (e2 _ _ (e1 _ _ h2))))
    obtain ⟨d1, hd1, g1⟩ := f1.getV h3
    obtain ⟨d2, hd2, g2⟩ := f2.getV h4
    rw [List.getElem?_zipWith, hd1, hd2] at hd
    injection hd with hd; subst hd
    refine .inr (.inl ⟨T, _, hT, rfl, .tup (.inl (.inl upd_same)) ?_⟩)
    have en : Ex B' (upd B' T (.tup [u, v])) := Ex.new (e2.nn hT)
    exact .cons ((g1.mono e1).mono en) (.cons ((g2.mono e1).mono en) .nil)
theorem iv_zip {e e2 : Expr} {p tpos : Pos} {elts : List Expr} {kk : Nat} {f : M (List D)} (hm : X.mg "zip" = none) (ha : EA X W [e, e2] f) (hg : Gl X "zip" := by rfl)
    (hs : starEach [e, e2] X.env = (false, eval e X.env) :: starEach [e2] X.env := by rfl) (hpl : (backTo pos (starEach [e2] X.env)).any (·.1) = false := by rfl) : IV X W (.Tuple elts kk tpos) (.Call (.Name "zip" p) [e, e2] [] pos) (mZip f) := by
  intro F ρ σ B H R L P
  refine PI.wi (pi_zip hg hm pa_wa hs hpl) ?_
  refine ha F ρ σ B H _ L ((Post.bind P).imp fun ds ρ1 B1 H1 e1 L1 P1 vs fs => ?_)
  obtain ⟨zs, hd, k⟩ := P1.opt
  split at hd
  · injection hd with hd; subst hd
    cases fs with
    | cons f1 fs => cases fs with
      | cons f2 fs =>
        cases fs
        cases f1 with
        | lst h1 g1 => cases f2 with
          | lst h2 g2 => exact ⟨_, _, _, _, rfl, .inl (.inl (L1.ex _ _ h1)), .inl (.inl (L1.ex _ _ h2)), k B1 H1 (Ex.refl _) L1 _ (it_zip h1 g1 h2 g2)⟩
  · cases hd
def enumD (k : Nat) : List D → List D
  | [] => []
  | d :: r => .tup [.int (k : Nat), d] :: enumD (k + 1) r
theorem enumD_len : ∀ (k : Nat) (ds : List D), (enumD k ds).length = ds.length
  | _, [] => rfl
  | k, d :: r => by show (enumD (k + 1) r).length + 1 = _; rw [enumD_len]; rfl
theorem enumD_get : ∀ (k : Nat) (ds : List D) (i : Nat), (enumD k ds)[i]? = (ds[i]?).map fun d => D.tup [.int ((k + i : Nat) : Int), d]
  | _, [], i => by simp [enumD]
  | k, d :: r, 0 => by simp [enumD]
  | k, d :: r, i + 1 => by
    show (enumD (k + 1) r)[i]? = _
    rw [enumD_get (k + 1) r i]
    show _ = (r[i]?).map _
    rw [show k + 1 + i = k + (i + 1) by omega]
def mEnum (f : M (List D)) : M (List D) := M.bind f fun ds => M.opt (match ds with
  | [.lst xs] => some (enumD 0 xs)
  | _ => none)
theorem it_enum {p : Addr} {xs : List V} {B : Hp} {ds : List D} (h1 : B p = some (.lst xs)) (f1 : Fzs K B xs ds) : ItOk K (Ite K p) B (enumD 0 ds) where
  go := fun B' H' i e1 e2 hi => by
    rw [enumD_len] at hi
    have hi1 : i < xs.length := by rw [f1.len]; omega
    exact ⟨xs, xs[i], .inl (.inl (e2 _ _ (e1 _ _ h1))), List.getElem?_eq_getElem hi1⟩
  stop := fun B' H' i e1 e2 hi => by
    rw [enumD_len] at hi
    exact ⟨xs, .inl (.inl (e2 _ _ (e1 _ _ h1))), by rw [f1.len]; omega⟩
  yld := fun B' H' i x H3 d e1 e2 y hd => by
    obtain ⟨T, u, rfl, hT, rfl, hu⟩ := y
    have h3 := hu xs (.inl (.inl (e2 _ _ (e1 _ _ h1))))
    obtain ⟨d1, hd1, g1⟩ := f1.getV h3
    rw [enumD_get, hd1] at hd
    injection hd with hd; subst hd
    refine .inr (.inl ⟨T, _, hT, rfl, .tup (.inl (.inl upd_same)) ?_⟩)
    have en : Ex B' (upd B' T (.tup [.int (i : Nat), u])) := Ex.new (e2.nn hT)
    rw [Nat.zero_add]
    exact .cons (.int _) (.cons ((g1.mono e1).mono en) .nil)
theorem iv_enum {e : Expr} {p tpos : Pos} {elts : List Expr} {kk : Nat} {f : M (List D)} (hm : X.mg "enumerate" = none) (ha : EA X W [e] f) (hg : Gl X "enumerate" := by rfl)
    (hs : starEach [e] X.env = [(false, eval e X.env)] := by rfl) : IV X W (.Tuple elts kk tpos) (.Call (.Name "enumerate" p) [e] [] pos) (mEnum f) := by
  intro F ρ σ B H R L P
  refine PI.wi (pi_enum hg hm pa_wa hs) ?_
  refine ha F ρ σ B H _ L ((Post.bind P).imp fun ds ρ1 B1 H1 e1 L1 P1 vs fs => ?_)
  obtain ⟨zs, hd, k⟩ := P1.opt
  split at hd
  · injection hd with hd; subst hd
    cases fs with
    | cons f1 fs =>
      cases fs
      cases f1 with
      | lst h1 g1 => exact ⟨_, _, rfl, .inl (.inl (L1.ex _ _ h1)), k B1 H1 (Ex.refl _) L1 _ (it_enum h1 g1)⟩
  · cases hd
def mListOf (f : M (List D)) : M (D × Ob) := M.bind f fun ds => M.opt (match ds with
  | [.lst xs] => some (.lst xs, .tt)
  | [.tup xs] => some (.lst xs, .tt)
  | _ => none)
theorem eo_listOf {p : Pos} {f : M (List D)} (hm : X.mg "list" = none) (ha : EA X W [a] f) (hg : Gl X "list" := by rfl) (he : starEach (a :: []) X.env = (false, eval a X.env) :: starEach [] X.env := by rfl) : EO X W (.Call (.Name "list" p) [a] [] pos) (mListOf f) := by
  intro F ρ σ B H Q L P
  refine PE.we (pe_callTy call_list_of hg hm (by decide +kernel) pa_wa (by decide) (by decide) he rfl) ?_
  refine ha F ρ σ B H _ L ((Post.bind P).imp fun ds ρ1 B1 H1 e1 L1 P1 vs fs => ?_)
  obtain ⟨p, hp, k⟩ := P1.opt
  split at hp
  · injection hp with hp; subst hp
    cases fs with
    | cons f1 fs =>
      cases fs
      cases f1 with
      | lst h1 g1 =>
        refine ⟨_, _, rfl, .inl (.inl (.inl (L1.ex _ _ h1))), fun q hq => ?_⟩
        obtain ⟨L4, v4⟩ := L1.newL hq g1
        exact k B1 _ (Ex.refl _) L4 _ v4
  · injection hp with hp; subst hp
    cases fs with
    | cons f1 fs =>
      cases fs
      cases f1 with
      | tup h1 g1 =>
        refine ⟨_, _, rfl, .inr (L1.ex.st h1), fun q hq => ?_⟩
        obtain ⟨L4, v4⟩ := L1.newL hq g1
        exact k B1 _ (Ex.refl _) L4 _ v4
  · cases hp
def asInts : List D → Option (List Int)
  | [] => some []
  | .int i :: r => (asInts r).map (i :: ·)
  | _ => none
theorem asInts_eq : ∀ {ds : List D} {ns : List Int}, asInts ds = some ns → ds = ns.map D.int
  | [], ns, h => by injection h with h; subst h; rfl
  | .int i :: r, ns, h => by
    have h' : (asInts r).map (i :: ·) = some ns := h
    cases q : asInts r with
    | none => rw [q] at h'; cases h'
    | some ms => rw [q] at h'; injection h' with h'; subst h'; rw [List.map_cons, asInts_eq q]
  | .non :: _, _, h => by cases h
  | .bl _ :: _, _, h => by cases h
  | .str _ :: _, _, h => by cases h
  | .lst _ :: _, _, h => by cases h
  | .tup _ :: _, _, h => by cases h
  | .scr _ :: _, _, h => by cases h
  | .dic _ _ :: _, _, h => by cases h
theorem asInts_map : ∀ ns : List Int, asInts (ns.map D.int) = some ns
  | [] => rfl
  | n :: ns => by show (asInts (ns.map D.int)).map (n :: ·) = _; rw [asInts_map ns]; rfl
def dSum : List D → Option D
  | [.lst xs] => (asInts xs).map fun ns => .int ns.sum
  | _ => none
def maxI : List Int → Option Int
  | [] => none
  | n :: ns => some (ns.foldl max n)
def minI : List Int → Option Int
  | [] => none
  | n :: ns => some (ns.foldl min n)
def dMaxL : List D → Option D
  | [.lst xs] => ((asInts xs).bind maxI).map D.int
  | _ => none
def dMinL : List D → Option D
  | [.lst xs] => ((asInts xs).bind minI).map D.int
  | _ => none
theorem foldl_max (n : Int) (ns : List Int) : (ns.foldl max n = n ∨ ns.foldl max n ∈ ns) ∧ n ≤ ns.foldl max n ∧ ∀ m ∈ ns, m ≤ ns.foldl max n := by
  induction ns generalizing n with
  | nil => exact ⟨.inl rfl, Int.le_refl _, fun m h => by cases h⟩
  | cons k ns ih =>
    obtain ⟨h1, h2, h3⟩ := ih (max n k)
    rw [List.foldl_cons]
    refine ⟨?_, by omega, fun m hm => ?_⟩
    · rcases h1 with h1 | h1
      · rw [h1]
        by_cases q : n ≤ k
        · right; rw [show max n k = k by omega]; exact List.mem_cons_self
        · left; omega
      · right; exact List.mem_cons_of_mem _ h1
    · rcases List.mem_cons.mp hm with rfl | hm
      · omega
      · exact h3 m hm
theorem foldl_min (n : Int) (ns : List Int) : (ns.foldl min n = n ∨ ns.foldl min n ∈ ns) ∧ ns.foldl min n ≤ n ∧ ∀ m ∈ ns, ns.foldl min n ≤ m := by
  induction ns generalizing n with
  | nil => exact ⟨.inl rfl, Int.le_refl _, fun m h => by cases h⟩
  | cons k ns ih =>
    obtain ⟨h1, h2, h3⟩ := ih (min n k)
    rw [List.foldl_cons]
    refine ⟨?_, by omega, fun m hm => ?_⟩
    · rcases h1 with h1 | h1
      · rw [h1]
        by_cases q : k ≤ n
        · right; rw [show min n k = k by omega]; exact List.mem_cons_self
        · left; omega
      · right; exact List.mem_cons_of_mem _ h1
    · rcases List.mem_cons.mp hm with rfl | hm
      · omega
      · exact h3 m hm
theorem fz_ints {B : Hp} {v : V} {xs : List D} {ns : List Int} (f : Fz K B v (.lst xs)) (h : asInts xs = some ns) : ∃ p, v = .ref p ∧ B p = some (.lst (ns.map V.int)) := by
  cases f with
  | lst h1 g1 =>
    rw [asInts_eq h] at g1
    rw [g1.ints] at h1
    exact ⟨_, rfl, h1⟩
theorem cd_sum : CallD K (rSum K) dSum := by
  intro xs ds d B H Q ex fs h g
  unfold dSum at h
  split at h
  · cases q : asInts _ with
    | none => rw [q] at h; cases h
    | some ns =>
      rw [q] at h; injection h with h; subst h
      cases fs with
      | cons f1 fs =>
        cases fs
        obtain ⟨p, rfl, hp⟩ := fz_ints f1 q
        exact ⟨p, ns, rfl, .inl (.inl (ex _ _ hp)), g.1 _ (.int _)⟩
  · cases h
theorem cd_maxL : CallD K (rMax K) dMaxL := by
  intro xs ds d B H Q ex fs h g
  unfold dMaxL at h
  split at h
  · cases q : asInts _ with
    | none => rw [q] at h; cases h
    | some ns =>
      rw [q] at h
      cases ns with
      | nil => cases h
      | cons n ns =>
        injection h with h; subst h
        cases fs with
        | cons f1 fs =>
          cases fs
          obtain ⟨p, rfl, hp⟩ := fz_ints f1 q
          refine ⟨p, n :: ns, rfl, .inl (.inl (ex _ _ hp)), by rw [List.length_cons]; omega, fun m hm hle => ?_⟩
          obtain ⟨h1, h2, h3⟩ := foldl_max n ns
          have e : m = ns.foldl max n := by
            have a1 : ns.foldl max n ≤ m := by
              rcases h1 with h1 | h1
              · rw [h1]; exact hle n List.mem_cons_self
              · exact hle _ (List.mem_cons_of_mem _ h1)
            have a2 : m ≤ ns.foldl max n := by
              rcases List.mem_cons.mp hm with z | z
              · omega
              · exact h3 m z
            omega
          rw [e]
          exact g.1 _ (.int _)
  · cases h
theorem cd_minL : CallD K (rMin K) dMinL := by
  intro xs ds d B H Q ex fs h g
  unfold dMinL at h
  split at h
  · cases q : asInts _ with
    | none => rw [q] at h; cases h
    | some ns =>
      rw [q] at h
      cases ns with
      | nil => cases h
      | cons n ns =>
        injection h with h; subst h
        cases fs with
        | cons f1 fs =>
          cases fs
          obtain ⟨p, rfl, hp⟩ := fz_ints f1 q
          refine ⟨p, n :: ns, rfl, .inl (.inl (ex _ _ hp)), by rw [List.length_cons]; omega, fun m hm hle => ?_⟩
          obtain ⟨h1, h2, h3⟩ := foldl_min n ns
          have e : m = ns.foldl min n := by
            have a1 : m ≤ ns.foldl min n := by
              rcases h1 with h1 | h1
              · rw [h1]; exact hle n List.mem_cons_self
              · exact hle _ (List.mem_cons_of_mem _ h1)
            have a2 : ns.foldl min n ≤ m := by
              rcases List.mem_cons.mp hm with z | z
              · omega
              · exact h3 m z
            omega
          rw [e]
          exact g.1 _ (.int _)
  · cases h
variable {p : Pos} {fa : M (List D)}
theorem ev_sum (hc : X.calm = true) (hm : X.mg "sum" = none) (ha : EA X W [a] fa) (hg : Gl X "sum" := by rfl) (he : starEach (a :: []) X.env = (false, eval a X.env) :: starEach [] X.env := by rfl) : EV X W (.Call (.Name "sum" p) [a] [] pos) (mCall dSum fa) := ev_callB (cr_sum hc) cd_sum hg hm (by decide +kernel) ha (by decide) (by decide) he
theorem ev_maxL (hc : X.calm = true) (hm : X.mg "max" = none) (ha : EA X W [a] fa) (hg : Gl X "max" := by rfl) (he : starEach (a :: []) X.env = (false, eval a X.env) :: starEach [] X.env := by rfl) : EV X W (.Call (.Name "max" p) [a] [] pos) (mCall dMaxL fa) := ev_callB (cr_max hc) cd_maxL hg hm (by decide +kernel) ha (by decide) (by decide) he
theorem ev_minL (hc : X.calm = true) (hm : X.mg "min" = none) (ha : EA X W [a] fa) (hg : Gl X "min" := by rfl) (he : starEach (a :: []) X.env = (false, eval a X.env) :: starEach [] X.env := by rfl) : EV X W (.Call (.Name "min" p) [a] [] pos) (mCall dMinL fa) := ev_callB (cr_min hc) cd_minL hg hm (by decide +kernel) ha (by decide) (by decide) he
def chkL (i : Nat) : M Unit := fun ρ => match ρ[i]? with
  | some (.ow (.lst _)) => .ok () ρ
  | some (.io (.lst _)) => .ok () ρ
  | _ => .fail
theorem Lv.chkL {F : Fr} {ρ : Env} {σ : St} {B H : Hp} {i : Nat} (L : Lv K F ρ σ B H) (h : Dt.chkL i ρ ≠ .fail) : Dt.chkL i ρ = .ok () ρ ∧ ∃ a vs, σ[i]? = some (some (.ref a)) ∧ H a = some (.lst vs) := by
  unfold Dt.chkL at h ⊢
  split at h
  · rename_i d q
    obtain ⟨a, e1, w, _⟩ := L.ow i _ q rfl
    obtain ⟨_, vs, h1, _⟩ := w
    exact ⟨by simp only [q], _, _, e1, h1⟩
  · rename_i d q
    obtain ⟨a, e1, w, _⟩ := L.ow i _ q rfl
    obtain ⟨_, vs, h1, _⟩ := w
    exact ⟨by simp only [q], _, _, e1, h1⟩
  · exact absurd rfl h
def mUpd (i : Nat) (h : List D → Option (List D)) : M Fl := fun ρ => match ρ[i]? with
  | some (.ow (.lst ds)) => match h ds with
    | some ds' => .ok .nx (ρ.set i (.ow (.lst ds')))
    | none => .fail
  | some (.io (.lst ds)) => match h ds with
    | some ds' => .ok .nx (ρ.set i (.io (.lst ds')))
    | none => .fail
  | _ => .fail
theorem Lv.upd1 {F : Fr} {ρ : Env} {σ : St} {B H : Hp} {i : Nat} {h : List D → Option (List D)} {N : Ends} {aa : Addr} (L : Lv X.K F ρ σ B H) (ev : σ[i]? = some (some (.ref aa))) (P : PostS X W F B (mUpd i h ρ) N) :
    ∃ vs ds ds', H aa = some (.lst vs) ∧ Fzs X.K B vs ds ∧ h ds = some ds' ∧ ∀ vs', Fzs X.K B vs' ds' → N.nx σ (upd H aa (.lst vs')) := by
  have go : ∀ {s : Slot} {ds : List D}, ρ[i]? = some s → flat s = true → s.dat = .lst ds → (∀ ds', h ds = some ds' → PostS X W F B (.ok .nx (ρ.set i (reslot ρ[i]? (.lst ds')))) N) → (h ds = none → False) → ∃ vs ds ds', H aa = some (.lst vs) ∧ Fzs X.K B vs ds ∧ h ds = some ds' ∧ ∀ vs', Fzs X.K B vs' ds' → N.nx σ (upd H aa (.lst vs')) := by
    intro s ds q ho hd P2 nf
    obtain ⟨a', vs, h1, h2, fs, st⟩ := L.setAt (ds' := ds) q ho hd
    rw [ev] at h1; injection h1 with h1; injection h1 with h1; injection h1 with h1; subst h1
    cases q2 : h ds with
    | none => exact (nf q2).elim
    | some ds' => exact ⟨vs, ds, ds', h2, fs, q2, fun vs' f' => P2 ds' q2 σ B _ (Ex.refl _) (st vs' ds' f')⟩
  unfold mUpd at P
  split at P
  · rename_i ds q
    refine go q rfl rfl (fun ds' z => ?_) (fun z => ?_)
    · rw [q]; simp only [z] at P; exact P
    · simp only [z] at P; exact P
  · rename_i ds q
    refine go q rfl rfl (fun ds' z => ?_) (fun z => ?_)
    · rw [q]; simp only [z] at P; exact P
    · simp only [z] at P; exact P
  · exact P.elim
def mApp1 (i : Nat) (fe : M D) : M Fl := M.bind (chkL i) fun _ => M.bind fe fun d => mUpd i fun ds => if ds.length < 10000 then some (ds ++ [d]) else none
theorem sv_app {i : Nat} {x : Str} {px apos cpos : Pos} {fe : M D} (he : EV X W e fe) (hN : X.N[i]? = some x := by rfl) (hv : Vis X.env.scope x := by first | exact Or.inl rfl | exact Or.inr (Or.inl rfl) | exact Or.inr (Or.inr rfl)) (hd : (x == ("__debug__" : Str)) = false := by decide)
    (hcd : (x == ("__classdict__" : Str)) = false := by decide) (hbase : attributeBase (.Name x px) "append" X.env (eval (.Name x px) X.env) = eval (.Name x px) X.env := by rfl)
    (hfew : ((backTo cpos (starEach (e :: []) X.env)).all (fun x => !x.1) && (backToKw cpos (keywordEach [] X.env)).all (fun x => x.1.isSome)
      && decide ((e :: []).length + ([] : List Keyword).length + (if ([] : List Keyword).isEmpty then 0 else 1) < 30)) = true := by rfl)
    (hline : (apos.endLine == cpos.line) = true := by rfl) (hs : starEach (e :: []) X.env = (false, eval e X.env) :: starEach [] X.env := by rfl)
    (hsw : swapsWith (.Call (.Attribute (.Name x px) "append" apos) [e] [] cpos) none pos.line X.env = pure false := by rfl) : SV X W (.Expr (.Call (.Attribute (.Name x px) "append" apos) [e] [] cpos) pos) (mApp1 i fe) := by
  intro F ρ σ B H N L P
  refine PS.ws (ps_expr (pe_bm PySem.F.plainAttrs_list PySem.F.slot_list_append PySem.F.type_list_append mt_append (pe_var hN hv hd hcd) (pa_cons pe_we pa_nil hs) hbase hfew hline hs rfl) hsw) ?_
  have P0 : PostS X W F B ((M.bind (chkL i) fun _ => M.bind fe fun d => mUpd i fun ds => if ds.length < 10000 then some (ds ++ [d]) else none) ρ) N := P
  have hne : chkL i ρ ≠ .fail := fun z => by unfold M.bind at P0; simp only [z] at P0; exact P0.elim
  obtain ⟨hck, aa, vs, ev, hl⟩ := L.chkL hne
  unfold M.bind at P0
  simp only [hck] at P0
  refine ⟨_, ev, .inl ⟨rfl, vs, .inl (.inl hl)⟩, ?_⟩
  refine he F ρ σ B H _ L ((PostS.bind (σ := σ) P0).imp fun d ρ1 B1 H1 e1 L1 P1 v fv => ?_)
  obtain ⟨vs1, ds1, ds2, h1, fs, h2, k⟩ := L1.upd1 ev P1
  split at h2
  · rename_i hz
    injection h2 with h2; subst h2
    exact ⟨aa, vs1, v, rfl, rfl, h1, lt_line (by rw [fs.len]; exact hz), k _ (fs.append (.cons fv .nil))⟩
  · cases h2
def mAugI (i : Nat) (h : Int → Int → Int) (f : M D) : M Fl := M.bind (chk i) fun _ => M.bind f fun d ρ => match ρ[i]?, d with
  | some (.fz (.int z)), .int y => .ok .nx (ρ.set i (.fz (.int (h z y))))
  | _, _ => .fail
end
end Dt
namespace Dt
open PySem PySem.Spec PyProof.Rows L2
section
variable {X : Cx} {W : WX} {e a b : Expr} {fa : M (List D)} {p pos : Pos} {K : PySem.W.Frag}
theorem sv_raiseV {x : Str} {fe : M D} {p3 : Pos} (hc : X.calm = true) (tk : Takes X W) (T : ExC X.K X.mg x) (he : EV X W e fe) (hg : Gl X x := by rfl) (hs : starEach [e] X.env = (false, eval e X.env) :: starEach [] X.env := by rfl) (hdb : (x == ("__debug__" : Str)) = false := by decide) :
    SV X W (.Raise (some (.Call (.Name x p) [e] [] p3)) none pos) (M.bind fe fun _ => M.raise x) := by
  obtain ⟨C, gC, xC, kC, bC, tC⟩ := T
  intro F ρ σ B H N L P
  refine PS.ws (ps_raise hc tk (SkE.pmk_own1 PySem.F.excBase_ValueError xC gC kC (raises_own bC tC) hg pe_we hs hdb)) ?_
  refine he F ρ σ B H _ L ((PostS.bind (σ := σ) P).imp fun d ρ1 B1 H1 e1 L1 P1 v fv => ?_)
  have h := P1 σ B1 H1 (Ex.refl _) L1
  unfold cv at h
  rw [gC] at h
  exact h
end
end Dt
namespace Dt
open PySem PySem.Spec PyProof.Rows L2
section
variable {X : Cx} {W : WX} {e a b kx : Expr} {f1 f2 fe fk : M D} {p p2 pos : Pos} {K : PySem.W.Frag} {F : Fr} {ρ : Env} {σ : St} {B H : Hp} {i : Nat} {x : Str}
def mListRg1 (f1 : M D) : M (D × Ob) := M.bind f1 fun d => M.opt (match d with
  | .int j => if -10000 < j ∧ j < 10000 then some (.lst (rangeD 0 j), .tt) else none
  | _ => none)
def mListRg2 (f1 f2 : M D) : M (D × Ob) := M.bind f1 fun c => M.bind f2 fun d => M.opt (match c, d with
  | .int i, .int j => if (-10000 < i ∧ i < 10000) ∧ (-10000 < j ∧ j < 10000) then some (.lst (rangeD i j), .tt) else none
  | _, _ => none)
theorem fzs_rg {B : Hp} (i j : Int) : Fzs K B (rgV i j) (rangeD i j) := by
  unfold rgV rangeD
  generalize List.range (j - i).toNat = l
  induction l with
  | nil => exact .nil
  | cons x r ih => exact .cons (.int _) ih
theorem eo_listRg1 {p3 : Pos} (hc : X.calm = true) (hm : X.mg "list" = none) (hr : X.mg "range" = none) (ha : EV X W a f1) (hg : Gl X "list" := by rfl) (hg2 : Gl X "range" := by rfl) (h1 : starEach [Expr.Call (.Name "range" p2) [a] [] pos] X.env = (false, eval (.Call (.Name "range" p2) [a] [] pos) X.env) :: starEach [] X.env := by rfl) (h2 : starEach [a] X.env = (false, eval a X.env) :: starEach [] X.env := by rfl) :
    EO X W (.Call (.Name "list" p) [.Call (.Name "range" p2) [a] [] pos] [] p3) (mListRg1 f1) := by
  intro F ρ σ B H Q L P
  refine PE.we (pe_listRg hc hg hm (prg_1 hg2 hr pe_we h2) h1) ?_
  refine ha F ρ σ B H _ L ((Post.bind P).imp fun d ρ1 B1 H1 e1 L1 P1 v fv => ?_)
  obtain ⟨z, hz, k⟩ := P1.opt
  split at hz
  · rename_i j
    cases fv
    split at hz
    · rename_i hj
      injection hz with hz; subst hz
      refine ⟨j, rfl, ⟨by omega, by omega, by omega, by omega, by omega⟩, fun q hq => ?_⟩
      obtain ⟨L4, v4⟩ := L1.newL hq (fzs_rg 0 j)
      exact k B1 _ (Ex.refl _) L4 _ v4
    · cases hz
  · cases hz
def mUpdE (i : Nat) (h : List D → Option (D × List D)) : M D := fun ρ => match ρ[i]? with
  | some (.ow (.lst ds)) => match h ds with
    | some (d, ds') => .ok d (ρ.set i (.ow (.lst ds')))
    | none => .fail
  | some (.io (.lst ds)) => match h ds with
    | some (d, ds') => .ok d (ρ.set i (.io (.lst ds')))
    | none => .fail
  | _ => .fail
theorem Lv.updE {h : List D → Option (D × List D)} {G : D → Env → Hp → Hp → Prop} {aa : Addr} (L : Lv X.K F ρ σ B H) (ev : σ[i]? = some (some (.ref aa))) (P : Post X W F σ B (mUpdE i h ρ) G) :
    ∃ vs ds d ds', H aa = some (.lst vs) ∧ Fzs X.K B vs ds ∧ h ds = some (d, ds') ∧ ∀ vs', Fzs X.K B vs' ds' → ∃ ρ', G d ρ' B (upd H aa (.lst vs')) := by
  have go : ∀ {s : Slot} {ds : List D}, ρ[i]? = some s → flat s = true → s.dat = .lst ds → (∀ d ds', h ds = some (d, ds') → Post X W F σ B (.ok d (ρ.set i (reslot ρ[i]? (.lst ds')))) G) → (h ds = none → False) → ∃ vs ds d ds', H aa = some (.lst vs) ∧ Fzs X.K B vs ds ∧ h ds = some (d, ds') ∧ ∀ vs', Fzs X.K B vs' ds' → ∃ ρ', G d ρ' B (upd H aa (.lst vs')) := by
    intro s ds q ho hd P2 nf
    obtain ⟨a', vs, h1, h2, fs, st⟩ := L.setAt (ds' := ds) q ho hd
    rw [ev] at h1; injection h1 with h1; injection h1 with h1; injection h1 with h1; subst h1
    cases q2 : h ds with
    | none => exact (nf q2).elim
    | some z =>
      obtain ⟨d, ds'⟩ := z
      exact ⟨vs, ds, d, ds', h2, fs, q2, fun vs' f' => ⟨_, P2 d ds' q2 B _ (Ex.refl _) (st vs' ds' f')⟩⟩
  unfold mUpdE at P
  split at P
  · rename_i ds q
    refine go q rfl rfl (fun d ds' z => ?_) (fun z => ?_)
    · rw [q]; simp only [z] at P; exact P
    · simp only [z] at P; exact P
  · rename_i ds q
    refine go q rfl rfl (fun d ds' z => ?_) (fun z => ?_)
    · rw [q]; simp only [z] at P; exact P
    · simp only [z] at P; exact P
  · exact P.elim
def popD (k : D) (ds : List D) : Option (D × List D) := match k with
  | .int z => if ds.length ≤ 10000 then (ixN ds.length z).bind fun j => (ds[j]?).map fun d => (d, ds.eraseIdx j) else none
  | _ => none
theorem Fzs.erase {B : Hp} : ∀ {vs : List V} {ds : List D} (j : Nat), Fzs K B vs ds → Fzs K B (vs.eraseIdx j) (ds.eraseIdx j)
  | _, _, _, .nil => .nil
  | _, _, 0, .cons _ r => r
  | _, _, j + 1, .cons f r => .cons f (Fzs.erase j r)
def mPopAt (i : Nat) (fk : M D) : M D := M.bind (chkL i) fun _ => M.bind fk fun k => mUpdE i (popD k)
theorem ev_popAt {px apos cpos : Pos} (hk : EV X W kx fk) (hN : X.N[i]? = some x := by rfl) (hv : Vis X.env.scope x := by first | exact Or.inl rfl | exact Or.inr (Or.inl rfl) | exact Or.inr (Or.inr rfl)) (hd : (x == ("__debug__" : Str)) = false := by decide)
    (hcd : (x == ("__classdict__" : Str)) = false := by decide) (hbase : attributeBase (.Name x px) "pop" X.env (eval (.Name x px) X.env) = eval (.Name x px) X.env := by rfl)
    (hfew : ((backTo cpos (starEach (kx :: []) X.env)).all (fun x => !x.1) && (backToKw cpos (keywordEach [] X.env)).all (fun x => x.1.isSome)
      && decide ((kx :: []).length + ([] : List Keyword).length + (if ([] : List Keyword).isEmpty then 0 else 1) < 30)) = true := by rfl)
    (hline : (apos.endLine == cpos.line) = true := by rfl) (hs : starEach (kx :: []) X.env = (false, eval kx X.env) :: starEach [] X.env := by rfl) : EV X W (.Call (.Attribute (.Name x px) "pop" apos) [kx] [] cpos) (mPopAt i fk) := by
  intro F ρ σ B H Q L P
  refine PE.we (pe_bm PySem.F.plainAttrs_list PySem.F.slot_list_pop PySem.F.type_list_pop mt_popAt (pe_var hN hv hd hcd) (pa_cons pe_we pa_nil hs) hbase hfew hline hs rfl) ?_
  have P0 : Post X W F σ B ((M.bind (chkL i) fun _ => M.bind fk fun k => mUpdE i (popD k)) ρ) (fun d ρ' B' H' => ∀ v, Fz X.K B' v d → Q v H') := P
  have hne : chkL i ρ ≠ .fail := fun z => by unfold M.bind at P0; simp only [z] at P0; exact P0.elim
  obtain ⟨hck, aa, vs, ev, hl⟩ := L.chkL hne
  unfold M.bind at P0
  simp only [hck] at P0
  refine ⟨_, ev, .inl ⟨rfl, vs, .inl (.inl hl)⟩, ?_⟩
  refine hk F ρ σ B H _ L ((Post.bind P0).imp fun d ρ1 B1 H1 e1 L1 P1 v fv => ?_)
  obtain ⟨vs1, ds1, dd, ds2, h1, fs, h2, k⟩ := L1.updE ev P1
  unfold popD at h2
  split at h2
  · rename_i z
    cases fv
    split at h2
    · rename_i hz
      cases hj : ixN ds1.length z with
      | none => rw [hj] at h2; cases h2
      | some j =>
        rw [hj] at h2
        cases hg : ds1[j]? with
        | none => simp only [Option.bind_some, hg] at h2; cases h2
        | some d0 =>
          simp only [Option.bind_some, hg, Option.map_some] at h2
          injection h2 with h2; injection h2 with h2 h3; subst h2; subst h3
          obtain ⟨y, hy, fy⟩ := fs.get hg
          obtain ⟨hq1, hq2, hq3, hq4⟩ := ixN_seq hj
          obtain ⟨ρ2, kk⟩ := k _ (fs.erase j)
          exact ⟨aa, vs1, z, j, y, rfl, rfl, h1, by omega, by omega, by rw [fs.len]; exact hq1, hy, kk y fy⟩
    · cases h2
  · cases h2
def mExt (i : Nat) (fe : M D) : M Fl := M.bind (chkL i) fun _ => M.bind fe fun d => mUpd i fun ds => match d with
  | .lst es => if ds.length + es.length ≤ 100000 then some (ds ++ es) else none
  | _ => none
def mIns (i : Nat) (fk fe : M D) : M Fl := M.bind (chkL i) fun _ => M.bind fk fun c => M.bind fe fun d => mUpd i fun ds => match c with
  | .int z => if ds.length < 10000 ∧ 0 ≤ z ∧ z < 10000 then some (ds.take z.toNat ++ [d] ++ ds.drop z.toNat) else none
  | _ => none
theorem sv_augI {op : Operator} {h : Int → Int → Int} {px : Pos} (ip : PIp X op (ipI h)) (he : EV X W e fe) (hNd : X.N.Nodup) (hN : X.N[i]? = some x := by rfl) (hx : Loc X.env.scope x := by first | exact Or.inl rfl | exact Or.inr rfl) (hf : X.fn x = true ∨ X.env.scope.names.lookup x = some .local := by first | exact .inl rfl | exact .inr rfl) :
    SV X W (.AugAssign (.Name x px) op e pos) (mAugI i h fe) := by
  intro F ρ σ B H N L P
  refine PS.ws (ps_aug hNd hN hx pe_we ip hf) ?_
  have P0 : PostS X W F B ((M.bind (chk i) fun _ => M.bind fe fun d ρ => match ρ[i]?, d with
    | some (.fz (.int z)), .int y => .ok .nx (ρ.set i (.fz (.int (h z y))))
    | _, _ => Rs.fail) ρ) N := P
  have hne : chk i ρ ≠ .fail := fun z => by unfold M.bind at P0; simp only [z] at P0; exact P0.elim
  obtain ⟨hck, vo, ev⟩ := L.chk (α := Unit) hne
  unfold M.bind at P0
  simp only [hck] at P0
  refine ⟨vo, ev, he F ρ σ B H _ L ((PostS.bind (σ := σ) P0).imp fun d ρ1 B1 H1 e1 L1 P1 v fv => ?_)⟩
  split at P1
  · rename_i z y q
    cases fv
    obtain ⟨v1, q1, f1⟩ := L1.fz i _ q
    rw [ev] at q1
    injection q1 with q1; injection q1 with q1; subst q1
    cases f1
    exact ⟨z, y, rfl, rfl, P1 _ B1 H1 (Ex.refl _) (L1.store rfl fun d hd => by injection hd with hd; subst hd; exact .int _)⟩
  · exact P1.elim
def getV (k d : D) : Option D := match k with
  | .int z => if 0 ≤ z then dIxL d (.int z) else none
  | _ => none
def mGetV (i : Nat) (k : D) : M D := fun ρ => match (contR ρ[i]?).bind (getV k) with
  | some z => .ok z ρ
  | none => .fail
def augD (h : Int → Int → Int) (c old d : D) (ds : List D) : Option (List D) := match c, old, d with
  | .int z, .int x, .int y => if 0 ≤ z then (ixN ds.length z).map fun j => ds.set j (.int (h x y)) else none
  | _, _, _ => none
def mAugAt (i : Nat) (h : Int → Int → Int) (fk fe : M D) : M Fl := M.bind (chkL i) fun _ => M.bind fk fun c => M.bind (mGetV i c) fun old => M.bind fe fun d => mUpd i (augD h c old d)
def mCatO (f1 f2 : M D) : M (D × Ob) := M.bind f1 fun c => M.bind f2 fun d => M.opt (match c, d with
  | .lst xs, .lst ys => if tooLong (xs.length + ys.length) = true then none else some (.lst (xs ++ ys), .tt)
  | _, _ => none)
def mRepO (f1 f2 : M D) : M (D × Ob) := M.bind f1 fun c => M.bind f2 fun d => M.opt (match c, d with
  | .lst xs, .int k => if k < 10000 ∧ -10000 < k ∧ xs.length ≤ 1000 then some (.lst (List.replicate k.toNat xs).flatten, .tt) else none
  | _, _ => none)
theorem eo_rep (ha : EV X W a f1) (hb : EV X W b f2) : EO X W (.BinOp a .Mult b pos) (mRepO f1 f2) := by
  intro F ρ σ B H Q L P
  refine PE.we (pe_op op_rep pe_we pe_we) ?_
  refine ha F ρ σ B H _ L ((Post.bind P).imp fun c ρ1 B1 H1 e1 L1 P1 u fu => ?_)
  refine hb F ρ1 σ B1 H1 _ L1 ((Post.bind P1).imp fun d ρ2 B2 H2 e2 L2 P2 v fv => ?_)
  obtain ⟨z, hz, k⟩ := P2.opt
  replace fu := fu.mono e2
  split at hz
  · rename_i xs kk
    split at hz
    · rename_i hk
      injection hz with hz; subst hz
      cases fv
      cases fu with
      | lst g1 g2 =>
        refine ⟨_, kk, _, rfl, rfl, L2.ex _ _ g1, by omega, by omega, ?_, fun q hq => ?_⟩
        · have h1 := hk.2.2
          rw [← g2.len] at h1
          have h2 : kk.toNat ≤ 10000 := by omega
          exact len_line' (Nat.le_trans (Nat.mul_le_mul h1 h2) (by decide))
        · obtain ⟨L4, v4⟩ := L2.newL hq (g2.rep kk.toNat)
          exact k B2 _ (Ex.refl _) L4 _ v4
    · cases hz
  · cases hz
def mIsiL (T : String) (i : Nat) : M D := M.bind (chk i) fun _ ρ => match (contR ρ[i]?).bind (dIsi T) with
  | some z => .ok z ρ
  | none => .fail
end
end Dt
namespace Dt
open PySem L2
def Rs.bnd {α β : Type} (r : Rs α) (g : α → M β) : Rs β := match r with
  | .ok a ρ' => g a ρ'
  | .rz c ρ' => .rz c ρ'
  | .fail => .fail
section
variable {α β : Type} {ρ ρ' : Env} {a : α} {c : Str} {g : α → M β} {f : M α}
@[simp] theorem ok_bnd : (Rs.ok a ρ).bnd g = g a ρ := rfl
@[simp] theorem rz_bnd : (Rs.rz c ρ : Rs α).bnd g = .rz c ρ := rfl
@[simp] theorem fail_bnd : (Rs.fail : Rs α).bnd g = .fail := rfl
@[simp] theorem bind_ap : M.bind f g ρ = (f ρ).bnd g := rfl
@[simp] theorem pure_ap : M.pure a ρ = .ok a ρ := rfl
@[simp] theorem fail_ap : (M.fail : M α) ρ = .fail := rfl
@[simp] theorem opt_some : M.opt (some a) ρ = .ok a ρ := rfl
@[simp] theorem opt_none : (M.opt none : M α) ρ = .fail := rfl
@[simp] theorem raise_ap : (M.raise c : M α) ρ = .rz c ρ := rfl
end
section
variable {i j : Nat} {ρ : Env} {d x y : D} {f f1 f2 f3 : M D} {fs : M (List D)} {fo : M (D × Ob)} {t u : M Bool} {a b : M Fl} {g : D → D → Option D} {g1 : D → Option D} {gs : List D → Option D} {k : Bool}
@[simp] theorem var_ap : mVar i ρ = match ρ[i]? with
  | some (.fz d) => .ok d ρ
  | some (.ow d) => .ok d (ρ.set i (.fz d))
  | some (.dp _ d) => .ok d (ρ.set i (.fz d))
  | _ => .fail := rfl
@[simp] theorem bin_ap : mBin g f1 f2 ρ = (f1 ρ).bnd fun x => M.bind f2 fun y => M.opt (g x y) := rfl
@[simp] theorem un_ap : mUn g1 f ρ = (f ρ).bnd fun x => M.opt (g1 x) := rfl
@[simp] theorem test_ap : mTest f ρ = (f ρ).bnd fun d => M.opt (asBl d) := rfl
@[simp] theorem asBl_bl : asBl (.bl k) = some k := rfl
@[simp] theorem nil_ap : mNil ρ = .ok [] ρ := rfl
@[simp] theorem cons_ap : mCons f fs ρ = (f ρ).bnd fun x => M.bind fs fun xs => M.pure (x :: xs) := rfl
@[simp] theorem call_ap : mCall gs fs ρ = (fs ρ).bnd fun xs => M.opt (gs xs) := rfl
@[simp] theorem tup_ap : mTup fs ρ = (fs ρ).bnd fun xs => M.opt (if xs.length ≤ 10000 then some (.tup xs) else none) := rfl
@[simp] theorem lst_ap : mLst fs ρ = (fs ρ).bnd fun xs => M.opt (if xs.length ≤ 10000 then some (.lst xs, .tt) else none) := rfl
@[simp] theorem mfz_ap : mFz fo ρ = (fo ρ).bnd fun p => M.opt (if p.2.ok = true then some p.1 else none) := rfl
@[simp] theorem mof_ap : mOf f ρ = (f ρ).bnd fun d => M.pure (d, .ff) := rfl
@[simp] theorem move_ap : mMove i ρ = match ρ[i]? with
  | some (.fz d) => .ok (d, .ff) ρ
  | some (.ow d) => .ok (d, .tt) (ρ.set i .un)
  | some (.dp m d) => .ok (d, .dp m) (ρ.set i .un)
  | _ => .fail := rfl
@[simp] theorem and_ap : mAnd t u ρ = (t ρ).bnd fun k => match k with
  | true => u
  | false => M.pure false := rfl
@[simp] theorem or_ap : mOr t u ρ = (t ρ).bnd fun k => match k with
  | true => M.pure true
  | false => u := rfl
@[simp] theorem not_ap : mNot t ρ = (t ρ).bnd fun k => M.pure (!k) := rfl
@[simp] theorem andV_ap : mAndV f1 f2 ρ = (f1 ρ).bnd fun d => match d with
  | .bl true => f2
  | .bl false => M.pure (.bl false)
  | _ => M.fail := rfl
@[simp] theorem orV_ap : mOrV f1 f2 ρ = (f1 ρ).bnd fun d => match d with
  | .bl true => M.pure (.bl true)
  | .bl false => f2
  | _ => M.fail := rfl
@[simp] theorem notV_ap : mNotV f ρ = (f ρ).bnd fun d => match d with
  | .bl k => M.pure (.bl (!k))
  | _ => M.fail := rfl
@[simp] theorem mif_ap {α : Type} {a b : M α} : mIf t a b ρ = (t ρ).bnd fun k => match k with
  | true => a
  | false => b := rfl
@[simp] theorem seq_ap : mSeq a b ρ = (a ρ).bnd fun fl => match fl with
  | .nx => b
  | .bk => M.pure .bk
  | .ct => M.pure .ct
  | .rt d o => M.pure (.rt d o) := rfl
@[simp] theorem mnx_ap : mNx ρ = .ok .nx ρ := rfl
@[simp] theorem set_ap : mSet i fo ρ = (fo ρ).bnd (mPut i) := rfl
@[simp] theorem put_ap {p : D × Ob} : mPut i p ρ = match Slot.of p with
  | some s => .ok .nx (ρ.set i s)
  | none => .fail := rfl
@[simp] theorem ok_ff : Ob.ok .ff = true := rfl
@[simp] theorem ok_tt : Ob.ok .tt = true := rfl
@[simp] theorem ok_dp {m : Mk} : Ob.ok (.dp m) = true := rfl
@[simp] theorem sof_ff : Slot.of (d, .ff) = some (.fz d) := rfl
@[simp] theorem sof_tt : Slot.of (d, .tt) = some (.ow d) := rfl
@[simp] theorem sof_dp {m : Mk} : Slot.of (d, .dp m) = some (.dp m d) := rfl
@[simp] theorem ret_ap : mRet fo ρ = (fo ρ).bnd fun p => M.pure (.rt p.1 p.2) := rfl
@[simp] theorem drop_ap : mDrop f ρ = (f ρ).bnd fun _ => mNx := rfl
@[simp] theorem isi_ap {T : String} : mIsi T f ρ = (f ρ).bnd fun d => M.opt (dIsi T d) := rfl
@[simp] theorem par_ap : mPar i j fs ρ = (fs ρ).bnd fun ds ρ => match ds with
  | [x, y] => .ok .nx ((ρ.set i (.fz x)).set j (.fz y))
  | _ => .fail := rfl
@[simp] theorem asg_ap {h : D → Env → Option Env} : mAsg h f ρ = (f ρ).bnd fun d ρ => match h d ρ with
  | some ρ' => .ok .nx ρ'
  | none => .fail := rfl
@[simp] theorem gN_ap : gN i d ρ = some (ρ.set i (.fz d)) := rfl
@[simp] theorem gsN_ap : gsN [] ρ = some ρ := rfl
@[simp] theorem gsC_ap {h : D → Env → Option Env} {hs : List D → Env → Option Env} {r : List D} : gsC h hs (d :: r) ρ = (h d ρ).bind (hs r) := rfl
@[simp] theorem gT_ap {n : Nat} {hs : List D → Env → Option Env} {ds : List D} : gT n hs (.tup ds) ρ = if ds.length = n then hs ds ρ else none := rfl
@[simp] theorem for_ap {h : D → Env → Option Env} : mFor fs h b ρ = (fs ρ).bnd (mForL h b) := rfl
@[simp] theorem forL_nil {h : D → Env → Option Env} : mForL h b [] ρ = .ok .nx ρ := rfl
theorem forL_cons {h : D → Env → Option Env} {r : List D} : mForL h b (d :: r) ρ = match h d ρ with
    | none => .fail
    | some ρ1 => (b ρ1).bnd fun fl => match fl with
      | .nx => mForL h b r
      | .ct => mForL h b r
      | .bk => mNx
      | .rt d o => M.pure (.rt d o) := rfl
@[simp] theorem range1_ap : mRange1 fs ρ = (fs ρ).bnd fun ds => M.opt (match ds with
  | [.int j] => if -100000000 < j ∧ j < 100000000 then some (rangeD 0 j) else none
  | _ => none) := rfl
@[simp] theorem range2_ap : mRange2 fs ρ = (fs ρ).bnd fun ds => M.opt (match ds with
  | [.int i, .int j] => if (-100000000 < i ∧ i < 100000000) ∧ (-100000000 < j ∧ j < 100000000) then some (rangeD i j) else none
  | _ => none) := rfl
@[simp] theorem iter_ap : mIter f ρ = (f ρ).bnd fun d => M.opt (match d with
  | .lst ds => some ds
  | _ => none) := rfl
@[simp] theorem chk_ap : chk i ρ = match ρ[i]? with
  | some (.ow _) => .ok () ρ
  | some (.io _) => .ok () ρ
  | some (.fz _) => .ok () ρ
  | _ => .fail := rfl
@[simp] theorem peek_ap : mPeek i f ρ = (chk i ρ).bnd fun _ => M.bind f fun k ρ => match (contR ρ[i]?).bind fun d => dIxL d k with
  | some z => .ok z ρ
  | none => .fail := rfl
@[simp] theorem putAt_ap : mPutAt i f1 f2 ρ = (f1 ρ).bnd fun d => M.bind (chk i) fun _ => M.bind f2 fun k ρ => match ρ[i]?, k with
  | some (.ow (.lst ds)), .int z => match ixN ds.length z with
    | some j => .ok .nx (ρ.set i (.ow (.lst (ds.set j d))))
    | none => .fail
  | some (.io (.lst ds)), .int z => match ixN ds.length z with
    | some j => .ok .nx (ρ.set i (.io (.lst (ds.set j d))))
    | none => .fail
  | _, _ => .fail := rfl
variable {fx : M (List AV)} {m : Option Nat} {n : Nat} {h : List D → Rf} {av : AV} {avs : List AV} {ds : List D} {sl : Option Slot}
@[simp] theorem xNil_ap : xNil ρ = .ok [] ρ := rfl
@[simp] theorem xV_ap : xV f fx ρ = (f ρ).bnd fun x => M.bind fx fun xs => M.pure (.v x :: xs) := rfl
@[simp] theorem xS_ap : xS i fx ρ = ((match ρ[i]? with
  | some (.ow _) => Rs.ok () ρ
  | some (.io _) => .ok () ρ
  | _ => .fail) : Rs Unit).bnd fun _ => M.bind fx fun xs => M.pure (.s i :: xs) := rfl
@[simp] theorem callN_ap : mCallN n m h fx ρ = (fx ρ).bnd fun avs ρ => (if avs.length = n then match setup ρ m avs with
  | none => .fail
  | some ds => match h ds with
    | .ok d o out => if o.ok = true then .ok (d, o) (match slotOf m avs with
      | none => ρ
      | some i => ρ.set i (reslot ρ[i]? out)) else .fail
    | .rz c => .rz c (match slotOf m avs with
      | none => ρ
      | some i => ρ.set i .un)
    | .fail => .fail else .fail) := by
  unfold mCallN mCallF
  rw [bind_ap, bind_ap]
  cases q : fx ρ with
  | ok avs ρ1 =>
    simp only [ok_bnd]
    split
    · simp only [opt_some, ok_bnd] <;> rfl
    · rfl
  | rz c ρ1 => rfl
  | fail => rfl
@[simp] theorem setup_nil : setup ρ none [] = some [] := rfl
@[simp] theorem setup_v : setup ρ none (.v d :: avs) = (setup ρ none avs).map (d :: ·) := rfl
@[simp] theorem setup_s : setup ρ (some 0) (.s i :: avs) = (contS ρ[i]?).bind fun d => (setup ρ none avs).map (d :: ·) := rfl
@[simp] theorem setup_vs : setup ρ (some (j + 1)) (.v d :: avs) = (setup ρ (some j) avs).map (d :: ·) := rfl
@[simp] theorem slotOf_n : slotOf none avs = none := slotOf_none avs
@[simp] theorem slotOf_s : slotOf (some 0) (.s i :: avs) = some i := rfl
@[simp] theorem slotOf_v : slotOf (some (j + 1)) (av :: avs) = slotOf (some j) avs := by cases av <;> rfl
@[simp] theorem contS_ow : contS (some (.ow d)) = some d := rfl
@[simp] theorem contS_io : contS (some (.io d)) = some d := rfl
@[simp] theorem contR_ow : contR (some (.ow d)) = some d := rfl
@[simp] theorem contR_io : contR (some (.io d)) = some d := rfl
@[simp] theorem contR_fz : contR (some (.fz d)) = some d := rfl
@[simp] theorem reslot_ow : reslot (some (.ow x)) d = .ow d := rfl
@[simp] theorem reslot_io : reslot (some (.io x)) d = .io d := rfl
@[simp] theorem initS_nil : initS none [] = [] := rfl
@[simp] theorem initS_n : initS none (d :: ds) = .fz d :: initS none ds := rfl
@[simp] theorem initS_0 : initS (some 0) (d :: ds) = .io d :: initS none ds := rfl
@[simp] theorem initS_s : initS (some (j + 1)) (d :: ds) = .fz d :: initS (some j) ds := rfl
@[simp] theorem initE_ap : initE m n ds = initS m ds ++ List.replicate (n - ds.length) .un := rfl
@[simp] theorem fin_n {o : Ob} : fin none d o ρ = .ok d o .non := rfl
@[simp] theorem fin_s {o : Ob} : fin (some j) d o ρ = match ρ[j]? with
    | some (.io out) => .ok d o out
    | _ => .fail := rfl
variable {p q : Int} {xs ys : List D} {s1 s2 : Str} {k1 k2 : Bool}
@[simp] theorem dAdd_i : dAdd (.int p) (.int q) = some (.int (p + q)) := rfl
@[simp] theorem dSub_i : dSub (.int p) (.int q) = some (.int (p - q)) := rfl
@[simp] theorem dMul_i : dMul (.int p) (.int q) = if mulOk p q = true then some (.int (p * q)) else none := rfl
@[simp] theorem dDiv_i : dDiv (.int p) (.int q) = if divOk p q = true then some (.int (p.fdiv q)) else none := rfl
@[simp] theorem dMod_i : dMod (.int p) (.int q) = if modOk p q = true then some (.int (p.fmod q)) else none := rfl
@[simp] theorem dPow_i : dPow (.int p) (.int q) = if powOk p q = true then some (.int (p ^ q.toNat)) else none := rfl
@[simp] theorem dLt_i : dLt (.int p) (.int q) = some (.bl (decide (p < q))) := rfl
@[simp] theorem dLe_i : dLe (.int p) (.int q) = some (.bl (decide (p ≤ q))) := rfl
@[simp] theorem dGt_i : dGt (.int p) (.int q) = some (.bl (decide (q < p))) := rfl
@[simp] theorem dGe_i : dGe (.int p) (.int q) = some (.bl (decide (q ≤ p))) := rfl
@[simp] theorem dNeg_i : dNeg (.int p) = some (.int (-p)) := rfl
@[simp] theorem dEq_i : dEq (.int p) (.int q) = some (.bl (decide (p = q))) := by rw [← Bool.beq_eq_decide_eq]; rfl
@[simp] theorem dNe_i : dNe (.int p) (.int q) = some (.bl (!decide (p = q))) := by rw [← Bool.beq_eq_decide_eq]; rfl
@[simp] theorem dEq_s : dEq (.str s1) (.str s2) = some (.bl (decide (s1 = s2))) := by rw [← Bool.beq_eq_decide_eq]; rfl
@[simp] theorem dNe_s : dNe (.str s1) (.str s2) = some (.bl (!decide (s1 = s2))) := by rw [← Bool.beq_eq_decide_eq]; rfl
@[simp] theorem dIs_b : dIs (.bl k1) (.bl k2) = some (.bl (decide (k1 = k2))) := rfl
@[simp] theorem dIsNot_b : dIsNot (.bl k1) (.bl k2) = some (.bl (!decide (k1 = k2))) := rfl
@[simp] theorem dAbs_i : dAbs [.int p] = some (.int ((p.natAbs : Nat) : Int)) := by
  show some (D.int (if p < 0 then -p else p)) = _
  congr 2
  split <;> omega
@[simp] theorem dLen_l : dLen [.lst xs] = some (.int xs.length) := rfl
@[simp] theorem dLen_t : dLen [.tup xs] = some (.int xs.length) := rfl
@[simp] theorem dLen_c {ns : List Int} : dLen [.scr ns] = some (.int ns.length) := rfl
@[simp] theorem dIx_l : dIx (.lst xs) (.int p) = L2.atI xs p := rfl
@[simp] theorem dIx_t : dIx (.tup xs) (.int p) = L2.atI xs p := rfl
@[simp] theorem dIx_c {ns : List Int} : dIx (.scr ns) (.int p) = (L2.atI ns p).map D.int := rfl
@[simp] theorem dIxL_l : dIxL (.lst xs) (.int p) = L2.atI xs p := rfl
@[simp] theorem at0 {α : Type} {x : α} {xs : List α} : L2.atI (x :: xs) 0 = some x := by
  unfold L2.atI ixN
  simp only [List.length_cons]
  rw [if_pos (by decide), if_pos (by omega)]
  rfl
@[simp] theorem at1 {α : Type} {x y : α} {xs : List α} : L2.atI (x :: y :: xs) 1 = some y := by
  unfold L2.atI ixN
  simp only [List.length_cons]
  rw [if_pos (by decide), if_pos (by omega)]
  rfl
@[simp] theorem ix0 {n : Nat} : ixN (n + 1) 0 = some 0 := by
  unfold ixN
  rw [if_pos (by decide), if_pos (by omega)]; rfl
@[simp] theorem ix1 {n : Nat} : ixN (n + 2) 1 = some 1 := by
  unfold ixN
  rw [if_pos (by decide), if_pos (by omega)]; rfl
theorem mulOk_of {p q : Int} {a b : Nat} (hp : p.natAbs < 2 ^ a) (hq : q.natAbs < 2 ^ b) (h : a + b ≤ 90000000) : mulOk p q = true := by
  unfold mulOk
  rw [decide_eq_true_iff]
  have l : ∀ {n k : Nat}, n < 2 ^ k → n.log2 ≤ k := fun {n k} h => by
    rcases Nat.eq_zero_or_pos n with z | z
    · subst z; simp
    · exact Nat.le_of_lt ((Nat.log2_lt (by omega)).mpr h)
  have h1 := l hp
  have h2 := l hq
  omega
theorem divOk_of {p q : Int} (h0 : q ≠ 0) : divOk p q = true := decide_eq_true h0
@[simp] theorem modOk_of {p q : Int} (h0 : q ≠ 0) : modOk p q = true := by
  unfold modOk
  exact decide_eq_true h0
end
end Dt
namespace Dt
open PySem L2
theorem kit1 : kitB "tuple" "tuple" = some true := by decide +kernel
theorem kit2 : kitB "int" "int" = some true := by decide +kernel
theorem kit3 : kitB "int" "bool" = some false := by decide +kernel
theorem kit4 : kitB "bool" "bool" = some true := by decide +kernel
theorem kit5 : kitB "list" "list" = some true := by decide +kernel
theorem kit6 : kitB "bool" "int" = some true := by decide +kernel
theorem kit7 : kitB "str" "str" = some true := by decide +kernel
section
variable {xs : List D} {i : Int} {k k2 : Bool} {x : Str}
@[simp] theorem isi_tt : dIsi "tuple" (.tup xs) = some (.bl true) := by show (kitB "tuple" "tuple").map D.bl = _; rw [kit1]; rfl
@[simp] theorem isi_ii : dIsi "int" (.int i) = some (.bl true) := by show (kitB "int" "int").map D.bl = _; rw [kit2]; rfl
@[simp] theorem isi_ib : dIsi "bool" (.int i) = some (.bl false) := by show (kitB "int" "bool").map D.bl = _; rw [kit3]; rfl
@[simp] theorem isi_bb : dIsi "bool" (.bl k) = some (.bl true) := by show (kitB "bool" "bool").map D.bl = _; rw [kit4]; rfl
@[simp] theorem isi_ll : dIsi "list" (.lst xs) = some (.bl true) := by show (kitB "list" "list").map D.bl = _; rw [kit5]; rfl
@[simp] theorem isi_bi : dIsi "int" (.bl k) = some (.bl true) := by show (kitB "bool" "int").map D.bl = _; rw [kit6]; rfl
@[simp] theorem isi_ss : dIsi "str" (.str x) = some (.bl true) := by show (kitB "str" "str").map D.bl = _; rw [kit7]; rfl
@[simp] theorem dEq_b : dEq (.bl k) (.bl k2) = some (.bl (k == k2)) := by
  cases k <;> cases k2 <;> rfl
@[simp] theorem dNe_b : dNe (.bl k) (.bl k2) = some (.bl (!(k == k2))) := by
  cases k <;> cases k2 <;> rfl
end
end Dt
namespace Dt
open PySem L2
section
variable {i : Nat} {ρ : Env} {f f1 f2 fk fe : M D} {h : Int → Int → Int} {k d old : D} {ds xs : List D} {z x y : Int}
@[simp] theorem listRg1_ap : mListRg1 f ρ = (f ρ).bnd fun d => M.opt (match d with
  | .int j => if -10000 < j ∧ j < 10000 then some (.lst (rangeD 0 j), .tt) else none
  | _ => none) := rfl
@[simp] theorem listRg2_ap : mListRg2 f1 f2 ρ = (f1 ρ).bnd fun c => M.bind f2 fun d => M.opt (match c, d with
  | .int i, .int j => if (-10000 < i ∧ i < 10000) ∧ (-10000 < j ∧ j < 10000) then some (.lst (rangeD i j), .tt) else none
  | _, _ => none) := rfl
@[simp] theorem popAt_ap : mPopAt i fk ρ = (chkL i ρ).bnd fun _ => M.bind fk fun k => mUpdE i (popD k) := rfl
@[simp] theorem updE_ap {g : List D → Option (D × List D)} : mUpdE i g ρ = match ρ[i]? with
  | some (.ow (.lst ds)) => match g ds with
    | some (d, ds') => .ok d (ρ.set i (.ow (.lst ds')))
    | none => .fail
  | some (.io (.lst ds)) => match g ds with
    | some (d, ds') => .ok d (ρ.set i (.io (.lst ds')))
    | none => .fail
  | _ => .fail := rfl
@[simp] theorem ext_ap : mExt i fe ρ = (chkL i ρ).bnd fun _ => M.bind fe fun d => mUpd i fun ds => match d with
  | .lst es => if ds.length + es.length ≤ 100000 then some (ds ++ es) else none
  | _ => none := rfl
@[simp] theorem ins_ap : mIns i fk fe ρ = (chkL i ρ).bnd fun _ => M.bind fk fun c => M.bind fe fun d => mUpd i fun ds => match c with
  | .int z => if ds.length < 10000 ∧ 0 ≤ z ∧ z < 10000 then some (ds.take z.toNat ++ [d] ++ ds.drop z.toNat) else none
  | _ => none := rfl
@[simp] theorem augI_ap : mAugI i h f ρ = (chk i ρ).bnd fun _ => M.bind f fun d ρ => match ρ[i]?, d with
  | some (.fz (.int z)), .int y => .ok .nx (ρ.set i (.fz (.int (h z y))))
  | _, _ => .fail := rfl
@[simp] theorem augAt_ap : mAugAt i h fk fe ρ = (chkL i ρ).bnd fun _ => M.bind fk fun c => M.bind (mGetV i c) fun old => M.bind fe fun d => mUpd i (augD h c old d) := rfl
@[simp] theorem getV_ap : mGetV i k ρ = match (contR ρ[i]?).bind (getV k) with
  | some z => .ok z ρ
  | none => .fail := rfl
@[simp] theorem catO_ap : mCatO f1 f2 ρ = (f1 ρ).bnd fun c => M.bind f2 fun d => M.opt (match c, d with
  | .lst xs, .lst ys => if tooLong (xs.length + ys.length) = true then none else some (.lst (xs ++ ys), .tt)
  | _, _ => none) := rfl
@[simp] theorem repO_ap : mRepO f1 f2 ρ = (f1 ρ).bnd fun c => M.bind f2 fun d => M.opt (match c, d with
  | .lst xs, .int k => if k < 10000 ∧ -10000 < k ∧ xs.length ≤ 1000 then some (.lst (List.replicate k.toNat xs).flatten, .tt) else none
  | _, _ => none) := rfl
@[simp] theorem isiL_ap {T : String} : mIsiL T i ρ = (chk i ρ).bnd fun _ ρ => match (contR ρ[i]?).bind (dIsi T) with
  | some z => .ok z ρ
  | none => .fail := rfl
@[simp] theorem binL_ap {g : D → D → Option D} : mBinL g i f ρ = (chk i ρ).bnd fun _ => M.bind f fun y ρ => match (contR ρ[i]?).bind fun x => g x y with
  | some z => if scalD z = true then .ok z ρ else .fail
  | none => .fail := rfl
@[simp] theorem scal_bl {k : Bool} : scalD (.bl k) = true := rfl
@[simp] theorem lenL_ap : mLenL i ρ = (chk i ρ).bnd fun _ ρ => match (contR ρ[i]?).bind fun d => dLen [d] with
  | some z => .ok z ρ
  | none => .fail := rfl
end
end Dt
namespace Dt
open PySem L2
def kOk : L2.Key → Bool
  | .inl _ => true
  | .inr x => PyData.strOk x
def okD : Nat → D → Bool
  | _, .non => true
  | _, .bl _ => true
  | _, .int _ => true
  | _, .str x => PyData.strOk x
  | 0, _ => false
  | n + 1, .lst xs => xs.all (okD n)
  | n + 1, .tup xs => xs.all (okD n)
  | _ + 1, .scr _ => true
  | _ + 1, .dic _ _ => false
  | _ + 1, .dct _ _ => false
  | _ + 1, .obj _ => false
  | _ + 1, .key ks => ks.all kOk
theorem okD_all {n : Nat} (ih : ∀ d, okD n d = true → d.py.canLay0 = true ∧ d.py.depth ≤ n) : ∀ xs : List D, xs.all (okD n) = true → PyData.canLayAll0 (D.pys xs) = true ∧ PyData.depthAll (D.pys xs) ≤ n
  | [], _ => ⟨by simp [D.pys, PyData.canLayAll0], by simp [D.pys, PyData.depthAll]⟩
  | x :: xs, h => by
    rw [List.all_cons, Bool.and_eq_true] at h
    obtain ⟨a1, a2⟩ := ih x h.1
    obtain ⟨b1, b2⟩ := okD_all ih xs h.2
    refine ⟨by simp [D.pys, PyData.canLayAll0, a1, b1], ?_⟩
    simp only [D.pys, PyData.depthAll]
    omega
theorem canLay_ints : ∀ ns : List Int, PyData.canLayAll0 (ns.map PyData.int) = true
  | [] => by simp [PyData.canLayAll0]
  | n :: ns => by simp [PyData.canLayAll0, PyData.canLay0, canLay_ints ns]
theorem depth_ints : ∀ ns : List Int, PyData.depthAll (ns.map PyData.int) = 0
  | [] => by simp [PyData.depthAll]
  | n :: ns => by simp [PyData.depthAll, PyData.depth, depth_ints ns]
theorem canLay_keys : ∀ ks : List L2.Key, ks.all kOk = true → PyData.canLayAll0 (ks.map kPy) = true
  | [], _ => by simp [PyData.canLayAll0]
  | .inl n :: ns, h => by
    rw [List.all_cons, Bool.and_eq_true] at h
    simp [kPy, PyData.canLayAll0, PyData.canLay0, canLay_keys ns h.2]
  | .inr n :: ns, h => by
    rw [List.all_cons, Bool.and_eq_true] at h
    have h1 : PyData.strOk n = true := h.1
    simp [kPy, PyData.canLayAll0, PyData.canLay0, h1, canLay_keys ns h.2]
theorem depth_keys : ∀ ks : List L2.Key, PyData.depthAll (ks.map kPy) = 0
  | [] => by simp [PyData.depthAll]
  | .inl n :: ns => by simp [kPy, PyData.depthAll, PyData.depth, depth_keys ns]
  | .inr n :: ns => by simp [kPy, PyData.depthAll, PyData.depth, depth_keys ns]
theorem okD_ok : ∀ (n : Nat) (d : D), okD n d = true → d.py.canLay0 = true ∧ d.py.depth ≤ n
  | 0, .non, _ => by simp [D.py, PyData.canLay0, PyData.depth]
  | 0, .bl _, _ => by simp [D.py, PyData.canLay0, PyData.depth]
  | 0, .int _, _ => by simp [D.py, PyData.canLay0, PyData.depth]
  | 0, .str x, h => by
    have h' : PyData.strOk x = true := h
    simp [D.py, PyData.canLay0, PyData.depth, h']
  | 0, .lst _, h => by cases h
  | 0, .tup _, h => by cases h
  | 0, .scr _, h => by cases h
  | 0, .dic _ _, h => by cases h
  | 0, .dct _ _, h => by cases h
  | 0, .obj _, h => by cases h
  | 0, .key _, h => by cases h
  | n + 1, .dic _ _, h => by cases h
  | n + 1, .dct _ _, h => by cases h
  | n + 1, .obj _, h => by cases h
  | n + 1, .key ks, h => by
    have h' : ks.all kOk = true := h
    simp [D.py, PyData.canLay0, PyData.depth, canLay_keys ks h', depth_keys ks]
  | n + 1, .non, _ => by simp [D.py, PyData.canLay0, PyData.depth]
  | n + 1, .bl _, _ => by simp [D.py, PyData.canLay0, PyData.depth]
  | n + 1, .int _, _ => by simp [D.py, PyData.canLay0, PyData.depth]
  | n + 1, .str x, h => by
    have h' : PyData.strOk x = true := h
    simp [D.py, PyData.canLay0, PyData.depth, h']
  | n + 1, .lst xs, h => by
    obtain ⟨a, b⟩ := okD_all (okD_ok n) xs h
    refine ⟨by simp [D.py, PyData.canLay0, a], ?_⟩
    simp only [D.py, PyData.depth]
    omega
  | n + 1, .tup xs, h => by
    obtain ⟨a, b⟩ := okD_all (okD_ok n) xs h
    refine ⟨by simp [D.py, PyData.canLay0, a], ?_⟩
    simp only [D.py, PyData.depth]
    omega
  | n + 1, .scr ns, _ => by
    have h1 := canLay_ints ns
    have h2 := depth_ints ns
    refine ⟨by simp [D.py, PyData.canLay0, h1], ?_⟩
    simp only [D.py, PyData.depth]
    omega
theorem shp_of {n : Nat} {d : D} (h : okD n d = true) (hn : n ≤ 64) : shp d = true := by
  obtain ⟨a, b⟩ := okD_ok n d h
  show (d.py.canLay0 && decide (d.py.depth ≤ 64)) = true
  rw [a, Bool.true_and, decide_eq_true_iff]
  omega
def plD : Nat → D → Bool
  | _, .non => true
  | _, .int _ => true
  | _, .str _ => true
  | n + 1, .lst xs => xs.all (plD n)
  | n + 1, .tup xs => xs.all (plD n)
  | _, _ => false
theorem eqv_all {n : Nat} (ih : ∀ d e, plD n d = true → plD n e = true → (PyData.eqv d.py e.py = true ↔ d = e)) : ∀ xs ys : List D, xs.all (plD n) = true → ys.all (plD n) = true → (PyData.eqvAll (D.pys xs) (D.pys ys) = true ↔ xs = ys)
  | [], [], _, _ => by simp [D.pys, PyData.eqvAll]
  | [], _ :: _, _, _ => by simp [D.pys, PyData.eqvAll]
  | _ :: _, [], _, _ => by simp [D.pys, PyData.eqvAll]
  | x :: xs, y :: ys, h, k => by
    rw [List.all_cons, Bool.and_eq_true] at h k
    have h1 := ih x y h.1 k.1
    have h2 := eqv_all ih xs ys h.2 k.2
    simp only [D.pys, PyData.eqvAll, Bool.and_eq_true, h1, h2, List.cons.injEq]
theorem eqv_iff : ∀ (n : Nat) (d e : D), plD n d = true → plD n e = true → (PyData.eqv d.py e.py = true ↔ d = e) := by
  intro n
  induction n with
  | zero =>
    intro d e h k
    cases d <;> cases e <;> first | (simp [D.py, PyData.eqv]; done) | (exact absurd h Bool.false_ne_true) | (exact absurd k Bool.false_ne_true)
  | succ n ih =>
    intro d e h k
    cases d with
    | bl _ => cases h
    | scr _ => cases h
    | dic _ _ => cases h
    | dct _ _ => cases h
    | obj _ => cases h
    | key _ => cases h
    | lst xs =>
      cases e with
      | lst ys =>
        have := eqv_all ih xs ys h k
        simp only [D.py, PyData.eqv, this, D.lst.injEq]
      | bl _ => cases k
      | scr _ => cases k
      | dic _ _ => cases k
      | dct _ _ => cases k
      | obj _ => cases k
      | key _ => cases k
      | _ => simp [D.py, PyData.eqv]
    | tup xs =>
      cases e with
      | tup ys =>
        have := eqv_all ih xs ys h k
        simp only [D.py, PyData.eqv, this, D.tup.injEq]
      | bl _ => cases k
      | scr _ => cases k
      | dic _ _ => cases k
      | dct _ _ => cases k
      | obj _ => cases k
      | key _ => cases k
      | _ => simp [D.py, PyData.eqv]
    | _ =>
      cases e with
      | bl _ => cases k
      | scr _ => cases k
      | dic _ _ => cases k
      | dct _ _ => cases k
      | obj _ => cases k
      | key _ => cases k
      | _ => simp [D.py, PyData.eqv]
def gdD (d : D) : Prop := okD 20 d = true ∧ plD 20 d = true
theorem dEq_self {d : D} (h : gdD d) : dEq d d = some (.bl true) := by
  have s := shp_of h.1 (by decide)
  have q := (eqv_iff 20 d d h.2 h.2).mpr rfl
  cases d with
  | int i => simp
  | str x => simp
  | _ => simp [dEq, s, q]
theorem dEq_ne {d e : D} (h : gdD d) (k : gdD e) (n : d ≠ e) : dEq d e = some (.bl false) := by
  have s := shp_of h.1 (by decide)
  have s2 := shp_of k.1 (by decide)
  have q : PyData.eqv d.py e.py = false := by
    cases z : PyData.eqv d.py e.py with
    | false => rfl
    | true => exact absurd ((eqv_iff 20 d e h.2 k.2).mp z) n
  unfold dEq
  split
  · rename_i i j
    have : i ≠ j := fun z => n (by rw [z])
    simp [this]
  · rename_i i j
    have : i ≠ j := fun z => n (by rw [z])
    simp [this]
  · rw [if_pos ⟨s, s2⟩, q]
theorem dNe_not {d e : D} {k : Bool} (h : dEq d e = some (.bl k)) : dNe d e = some (.bl (!k)) := by
  cases d <;> cases e <;> simp only [dEq, dNe] at h ⊢ <;> first | (injection h with h; injection h with h; rw [h]; done) | (split at h <;> first | (injection h with h; injection h with h; rename_i hh; rw [if_pos hh, h]) | cases h)
end Dt
namespace Dt
section
variable {n : Nat} {i : Int} {k : Bool} {xs : List D}
@[simp] theorem okD_int : okD n (.int i) = true := by cases n <;> rfl
@[simp] theorem okD_non : okD n .non = true := by cases n <;> rfl
@[simp] theorem okD_bl : okD n (.bl k) = true := by cases n <;> rfl
@[simp] theorem okD_lst : okD (n + 1) (.lst xs) = xs.all (okD n) := rfl
@[simp] theorem okD_tup : okD (n + 1) (.tup xs) = xs.all (okD n) := rfl
@[simp] theorem plD_int : plD n (.int i) = true := by cases n <;> rfl
@[simp] theorem plD_non : plD n .non = true := by cases n <;> rfl
@[simp] theorem plD_lst : plD (n + 1) (.lst xs) = xs.all (plD n) := rfl
@[simp] theorem plD_tup : plD (n + 1) (.tup xs) = xs.all (plD n) := rfl
end
end Dt
namespace Dt
open PySem L2
def fq (q : Rat) : D := .tup [.int q.num, .int (q.den : Int)]
def eL {α : Type} (f : α → D) (xs : List α) : D := .lst (xs.map f)
def eV {α : Type} (f : α → D) (xs : List α) : D := .tup (xs.map f)
def eT2 {α β : Type} (f : α → D) (g : β → D) (p : α × β) : D := .tup [f p.1, g p.2]
def eT3 {α β γ : Type} (f : α → D) (g : β → D) (h : γ → D) (p : α × β × γ) : D := .tup [f p.1, g p.2.1, h p.2.2]
def eT4 {α β γ δ : Type} (f : α → D) (g : β → D) (h : γ → D) (k : δ → D) (p : α × β × γ × δ) : D := .tup [f p.1, g p.2.1, h p.2.2.1, k p.2.2.2]
def eN (_ : Unit) : D := .non
abbrev Num := List Rat ⊕ List Int
def eNum : Num → D
  | .inl r => eL fq r
  | .inr c => eL D.int c
def numQ (x : Num) : List Rat := match x with
  | .inl r => r
  | .inr _ => []
def numI (x : Num) : List Int := match x with
  | .inl _ => []
  | .inr c => c
def numLen (x : Num) : Nat := match x with
  | .inl r => r.length
  | .inr c => c.length
abbrev Com := Str × Num
abbrev eC : Com → D := eT2 D.str eNum
def mkq (p : Int × Int) : Rat := Rat.divInt p.1 p.2
def IsQ (p : Int × Int) : Prop := 0 < p.2 ∧ Nat.gcd p.1.natAbs p.2.natAbs = 1
abbrev Line := List Rat × Rat × Int × Str
abbrev Way := Int × Rat
abbrev Stand := Int × Rat × List Way
abbrev Net := List Line × List Stand × Com
abbrev eLine : Line → D := eT4 (eL fq) fq D.int D.str
abbrev eWay : Way → D := eT2 D.int fq
abbrev eStand : Stand → D := eT3 D.int fq (eL eWay)
abbrev eNet : Net → D := eT3 (eL eLine) (eL eStand) eC
def bd {α β : Sort _} (v : α) (b : α → β) : β := b v
def ixN' (n : Nat) (i : Int) : Nat := if i < 0 then (i + n).toNat else i.toNat
def ix {α : Type} [Inhabited α] (xs : List α) (i : Int) : α := xs.getD (ixN' xs.length i) default
def InB (n : Nat) (i : Int) : Prop := -(n : Int) ≤ i ∧ i < n
def setI {α : Type} (xs : List α) (i : Int) (v : α) : List α := xs.set (ixN' xs.length i) v
def rangeI (lo hi : Int) : List Int := (List.range (hi - lo).toNat).map fun (i : Nat) => lo + (i : Int)
def enumI {α : Type} (xs : List α) : List (Int × α) := (rangeI 0 xs.length).zip xs
def cut {α : Type} (xs : List α) (lo hi : Option Int) : List α := (xs.drop (HT.sIx xs.length 0 lo)).take (HT.sIx xs.length xs.length hi - HT.sIx xs.length 0 lo)
def repI {α : Type} (xs : List α) (k : Int) : List α := (List.replicate k.toNat xs).flatten
def maxL : List Int → Int
  | [] => 0
  | n :: ns => ns.foldl max n
def minL : List Int → Int
  | [] => 0
  | n :: ns => ns.foldl min n
def sfl {σ α : Type} (f : σ → α → σ) (S : σ → α → Prop) : List α → σ → Prop
  | [], _ => True
  | x :: r, s => S s x ∧ sfl f S r (f s x)
def lcS {σ α β : Type} (p : α → σ → Bool × σ) (e : α → σ → β × σ) : List α → σ → List β × σ
  | [], s => ([], s)
  | x :: r, s => cond (p x s).1 (((e x (p x s).2).1 :: (lcS p e r (e x (p x s).2).2).1), (lcS p e r (e x (p x s).2).2).2) (lcS p e r (p x s).2)
def slcS {σ α β : Type} (p : α → σ → Bool × σ) (e : α → σ → β × σ) (S : α → σ → Prop) : List α → σ → Prop
  | [], _ => True
  | x :: r, s => S x s ∧ (((p x s).1 = true) → slcS p e S r (e x (p x s).2).2) ∧ (((p x s).1 = false) → slcS p e S r (p x s).2)
def itN {σ : Type} (c : σ → Bool) (f : σ → σ) : Nat → σ → σ
  | 0, s => s
  | n + 1, s => cond (c s) (itN c f n (f s)) s
def swN {σ : Type} (c : σ → Bool) (f : σ → σ) (S : σ → Prop) : Nat → σ → Prop
  | 0, _ => False
  | n + 1, s => S s ∧ (c s = true → swN c f S n (f s))
def stN {σ : Type} (c : σ → Bool) (f : σ → σ) : Nat → σ → Prop
  | 0, _ => False
  | n + 1, s => c s = true → stN c f n (f s)
open Classical in
noncomputable def whl {σ : Type} (c : σ → Bool) (f : σ → σ) (s : σ) : σ := if h : ∃ n, stN c f n s then itN c f (choose h) s else s
def swh {σ : Type} (c : σ → Bool) (f : σ → σ) (S : σ → Prop) (s : σ) : Prop := ∃ n, swN c f S n s
theorem swN_st {σ : Type} {c : σ → Bool} {f : σ → σ} {S : σ → Prop} : ∀ (n : Nat) (s : σ), swN c f S n s → stN c f n s
  | 0, _, h => h.elim
  | n + 1, s, h => fun q => swN_st n (f s) (h.2 q)
theorem itN_up {σ : Type} {c : σ → Bool} {f : σ → σ} : ∀ (n m : Nat) (s : σ), stN c f n s → n ≤ m → itN c f m s = itN c f n s
  | 0, _, _, h, _ => h.elim
  | n + 1, 0, _, _, hm => by omega
  | n + 1, m + 1, s, h, hm => by
    unfold itN
    cases q : c s with
    | false => rfl
    | true => exact itN_up n m (f s) (h q) (by omega)
theorem whl_eq {σ : Type} {c : σ → Bool} {f : σ → σ} {s : σ} {n : Nat} (h : stN c f n s) : whl c f s = itN c f n s := by
  have hx : ∃ n, stN c f n s := ⟨n, h⟩
  unfold whl
  rw [dif_pos hx]
  have h2 := Classical.choose_spec hx
  by_cases q : n ≤ Classical.choose hx
  · exact itN_up n _ s h q
  · exact (itN_up _ n s h2 (by omega)).symm
theorem sfl_T {σ α : Type} {f : σ → α → σ} : ∀ {xs : List α} {s : σ}, sfl f (fun _ _ => True) xs s
  | [], _ => trivial
  | _ :: _, _ => ⟨trivial, sfl_T⟩
theorem slcS_T {σ α β : Type} {p : α → σ → Bool × σ} {e : α → σ → β × σ} : ∀ {xs : List α} {s : σ}, slcS p e (fun _ _ => True) xs s
  | [], _ => trivial
  | _ :: _, _ => ⟨trivial, fun _ => slcS_T, fun _ => slcS_T⟩
section
variable {ρ ρ1 ρ2 ρ3 : Env} {i j n : Nat} {x y z d : D} {xs ys ds : List D} {f f1 f2 f3 fk fe : M D} {fs : M (List D)} {fo : M (D × Ob)} {g : D → D → Option D} {g1 : D → Option D} {gs : List D → Option D} {t u : M Bool} {c c2 : Bool} {o : Ob}
theorem v_fz (h : ρ[i]? = some (.fz d)) : mVar i ρ = .ok d ρ := by unfold mVar; rw [h]
theorem vf (i : Nat) (h : ρ[i]? = some (.fz d)) : mVar i ρ = .ok d ρ := v_fz h
abbrev zI (x : Int) : Slot := .fz (.int x)
abbrev zQ (x : Rat) : Slot := .fz (fq x)
abbrev zL (x : List Rat) : Slot := .fz (eL fq x)
abbrev zJ (x : List Int) : Slot := .fz (eL D.int x)
theorem b2 (h1 : f1 ρ = .ok x ρ1) (h2 : f2 ρ1 = .ok y ρ2) (h3 : g x y = some z) : mBin g f1 f2 ρ = .ok z ρ2 := by
  unfold mBin M.bind; rw [h1]; dsimp only; rw [h2]; dsimp only; unfold M.opt; rw [h3]
theorem u1 (h1 : f ρ = .ok x ρ1) (h3 : g1 x = some z) : mUn g1 f ρ = .ok z ρ1 := by
  unfold mUn M.bind; rw [h1]; dsimp only; unfold M.opt; rw [h3]
theorem a0 : mNil ρ = .ok [] ρ := rfl
theorem a1 (h1 : f ρ = .ok x ρ1) (h2 : fs ρ1 = .ok xs ρ2) : mCons f fs ρ = .ok (x :: xs) ρ2 := by
  unfold mCons M.bind; rw [h1]; dsimp only; rw [h2]; rfl
theorem c1 (h : fs ρ = .ok xs ρ1) (h2 : gs xs = some d) : mCall gs fs ρ = .ok d ρ1 := by
  unfold mCall M.bind; rw [h]; dsimp only; unfold M.opt; rw [h2]
theorem x0 : xNil ρ = .ok [] ρ := rfl
theorem x1 {fx : M (List AV)} {avs : List AV} (h1 : f ρ = .ok x ρ1) (h2 : fx ρ1 = .ok avs ρ2) : xV f fx ρ = .ok (.v x :: avs) ρ2 := by
  unfold xV M.bind; rw [h1]; dsimp only; rw [h2]; rfl
theorem x1s {fx : M (List AV)} {avs : List AV} {s : Slot} (h1 : ρ[i]? = some s) (ho : flat s = true) (h2 : fx ρ = .ok avs ρ2) : xS i fx ρ = .ok (.s i :: avs) ρ2 := by
  unfold xS M.bind; dsimp only; rw [h1]
  cases s with
  | ow d => dsimp only; rw [h2]; rfl
  | io d => dsimp only; rw [h2]; rfl
  | un => cases ho
  | fz d => cases ho
  | dp m d => cases ho
def aft (m : Option Nat) (avs : List AV) (ρ : Env) (out : D) : Env := match slotOf m avs with
  | none => ρ
  | some i => ρ.set i (reslot ρ[i]? out)
theorem cN {fx : M (List AV)} {avs : List AV} {m : Option Nat} {fn : List D → Rf} {out : D} (h : fx ρ = .ok avs ρ1) (hl : avs.length = n) (hs : setup ρ1 m avs = some ds) (hf : fn ds = .ok d o out)
    (hr : aft m avs ρ1 out = ρ2) (ho : o.ok = true := by rfl) : mCallN n m fn fx ρ = .ok (d, o) ρ2 := by
  unfold mCallN mCallF M.bind
  rw [h]; dsimp only
  rw [if_pos hl]
  unfold M.opt; dsimp only
  rw [hs]; dsimp only
  rw [hf]; dsimp only
  rw [if_pos ho, ← hr]; rfl
theorem mfz (h : fo ρ = .ok (d, o) ρ1) (ho : o.ok = true := by rfl) : mFz fo ρ = .ok d ρ1 := by unfold mFz M.bind; rw [h]; dsimp only; rw [if_pos ho]; rfl
theorem mof (h : f ρ = .ok d ρ1) : mOf f ρ = .ok (d, .ff) ρ1 := by unfold mOf M.bind; rw [h]; rfl
theorem mtup (h : fs ρ = .ok xs ρ1) (hl : Nat.ble xs.length 10000 = true := by rfl) : mTup fs ρ = .ok (.tup xs) ρ1 := by
  unfold mTup M.bind; rw [h]; dsimp only; rw [if_pos (Nat.le_of_ble_eq_true hl)]; rfl
theorem mlst (h : fs ρ = .ok xs ρ1) (hl : Nat.ble xs.length 10000 = true := by rfl) : mLst fs ρ = .ok (.lst xs, .tt) ρ1 := by
  unfold mLst M.bind; rw [h]; dsimp only; rw [if_pos (Nat.le_of_ble_eq_true hl)]; rfl
theorem mv_dp {m : Mk} (h : ρ[i]? = some (.dp m d)) : mMove i ρ = .ok (d, .dp m) (ρ.set i .un) := by unfold mMove; rw [h]
theorem mv_ow (h : ρ[i]? = some (.ow d)) : mMove i ρ = .ok (d, .tt) (ρ.set i .un) := by unfold mMove; rw [h]
theorem tst (h : f ρ = .ok (.bl c) ρ1) : mTest f ρ = .ok c ρ1 := by unfold mTest M.bind; rw [h]; rfl
theorem nt (h : t ρ = .ok c ρ1) : mNot t ρ = .ok (!c) ρ1 := by unfold mNot M.bind; rw [h]; rfl
theorem orr (h1 : t ρ = .ok c ρ1) (h2 : c = false → u ρ1 = .ok c2 ρ1) : mOr t u ρ = .ok (c || c2) ρ1 := by
  unfold mOr M.bind; rw [h1]
  cases c with
  | false => exact h2 rfl
  | true => rfl
theorem orS {σ : Type} {ctx : σ → Env} {s1 s2 : σ} (h1 : t ρ = .ok c (ctx s1)) (h2 : c = false → u (ctx s1) = .ok c2 (ctx s2)) : mOr t u ρ = .ok (c || c2) (ctx (cond c s1 s2)) := by
  unfold mOr M.bind; rw [h1]
  cases c with
  | false => exact h2 rfl
  | true => rfl
theorem anV (h1 : f1 ρ = .ok (.bl c) ρ1) (h2 : c = true → f2 ρ1 = .ok (.bl c2) ρ1) : mAndV f1 f2 ρ = .ok (.bl (c && c2)) ρ1 := by
  unfold mAndV M.bind; rw [h1]
  cases c with
  | true => exact h2 rfl
  | false => rfl
theorem orV (h1 : f1 ρ = .ok (.bl c) ρ1) (h2 : c = false → f2 ρ1 = .ok (.bl c2) ρ1) : mOrV f1 f2 ρ = .ok (.bl (c || c2)) ρ1 := by
  unfold mOrV M.bind; rw [h1]
  cases c with
  | false => exact h2 rfl
  | true => rfl
theorem ntV (h1 : f ρ = .ok (.bl c) ρ1) : mNotV f ρ = .ok (.bl (!c)) ρ1 := by unfold mNotV M.bind; rw [h1]; rfl
theorem chn {g' : D → D → Option D} {w : D} (h1 : f1 ρ = .ok x ρ1) (h2 : f2 ρ1 = .ok y ρ2) (h3 : g x y = some (.bl c)) (h4 : c = true → f3 ρ2 = .ok w ρ2) (h5 : c = true → g' y w = some (.bl c2)) : mChain g g' f1 f2 f3 ρ = .ok (.bl (c && c2)) ρ2 := by
  unfold mChain M.bind; rw [h1]; dsimp only; rw [h2]; dsimp only; unfold M.opt; rw [h3]; dsimp only
  cases c with
  | true => dsimp only; rw [h4 rfl]; dsimp only; rw [h5 rfl]; rfl
  | false => rfl
end
section
variable {α β : Type} {F : α → D} {G : β → D} {p q : Int} {s1 s2 : Str} {k1 k2 : Bool}
theorem o_mul (h : mulOk p q = true) : dMul (.int p) (.int q) = some (.int (p * q)) := if_pos h
theorem o_mod (h : q ≠ 0) : dMod (.int p) (.int q) = some (.int (p.fmod q)) := if_pos (decide_eq_true h)
theorem ixN_of {n : Nat} {i : Int} (h : InB n i) : ixN n i = some (ixN' n i) ∧ ixN' n i < n := by
  obtain ⟨h1, h2⟩ := h
  unfold ixN ixN'
  by_cases q : i < 0
  · rw [if_neg (by omega), if_pos h1, if_pos q]; exact ⟨rfl, by omega⟩
  · rw [if_pos (by omega), if_pos h2, if_neg q]; exact ⟨rfl, by omega⟩
theorem at_of {γ : Type} {F : α → γ} [Inhabited α] {xs : List α} {i : Int} (h : InB xs.length i) : L2.atI (xs.map F) i = some (F (ix xs i)) := by
  obtain ⟨h1, h2⟩ := ixN_of h
  unfold L2.atI ix
  rw [List.length_map, h1]
  show (xs.map F)[ixN' xs.length i]? = _
  rw [List.getElem?_map, List.getElem?_eq_getElem h2, List.getD_eq_getElem?_getD, List.getElem?_eq_getElem h2]
  rfl
theorem o_ixL [Inhabited α] {xs : List α} (h : InB xs.length p) : dIx (eL F xs) (.int p) = some (F (ix xs p)) := at_of h
theorem o_ixLL [Inhabited α] {xs : List α} (h : InB xs.length p) : dIxL (eL F xs) (.int p) = some (F (ix xs p)) := at_of h
theorem o_addL {xs ys : List α} (h : xs.length + ys.length ≤ 10000) : dAdd (eL F xs) (eL F ys) = some (eL F (xs ++ ys)) := by
  unfold eL dAdd
  rw [List.map_append]
  show (if tooLong ((xs.map F).length + (ys.map F).length) = true then none else _) = _
  rw [if_neg (by unfold tooLong; rw [decide_eq_true_iff, List.length_map, List.length_map]; omega)]
theorem map_flat {xs : List α} : ∀ k : Nat, (List.replicate k (xs.map F)).flatten = (List.replicate k xs).flatten.map F
  | 0 => rfl
  | k + 1 => by rw [List.replicate_succ, List.replicate_succ, List.flatten_cons, List.flatten_cons, List.map_append, map_flat k]
theorem o_mulL {xs : List α} (h : q < 10000 ∧ -10000 < q ∧ xs.length ≤ 1000) : dMul (eL F xs) (.int q) = some (eL F (repI xs q)) := by
  unfold eL repI
  show (if q < 10000 ∧ -10000 < q ∧ (xs.map F).length ≤ 1000 then _ else none) = _
  rw [if_pos (by rw [List.length_map]; exact h), map_flat]
theorem o_lenL {xs : List α} : dLen [eL F xs] = some (.int xs.length) := by
  show some (D.int ((xs.map F).length : Int)) = _
  rw [List.length_map]
theorem o_sum {xs : List Int} : dSum [eL D.int xs] = some (.int xs.sum) := by
  show (asInts (xs.map D.int)).map (fun ns => D.int ns.sum) = _
  rw [asInts_map]; rfl
theorem o_maxL {xs : List Int} (h : xs ≠ []) : dMaxL [eL D.int xs] = some (.int (maxL xs)) := by
  show ((asInts (xs.map D.int)).bind maxI).map D.int = _
  rw [asInts_map]
  cases xs with
  | nil => exact absurd rfl h
  | cons n ns => rfl
theorem o_minL {xs : List Int} (h : xs ≠ []) : dMinL [eL D.int xs] = some (.int (minL xs)) := by
  show ((asInts (xs.map D.int)).bind minI).map D.int = _
  rw [asInts_map]
  cases xs with
  | nil => exact absurd rfl h
  | cons n ns => rfl
end
end Dt
namespace Dt
open PySem PySem.Spec PyProof.Rows L2
def mKill (is : List Nat) : M Fl := fun ρ => .ok .nx (wipeE ρ is)
def mFrz (i : Nat) : M Fl := fun ρ => match ρ[i]? with
  | some (.ow d) => .ok .nx (ρ.set i (.fz d))
  | some (.dp _ d) => .ok .nx (ρ.set i (.fz d))
  | _ => .ok .nx ρ
theorem Lv.kill {K : PySem.W.Frag} {F : Fr} {ρ : Env} {σ : St} {B H : Hp} (L : Lv K F ρ σ B H) : ∀ is : List Nat, Lv K F (wipeE ρ is) σ B H
  | [] => L
  | i :: is => (Lv.kill L is).slot rfl (fun d z => nomatch z)
section
variable {X : Cx} {W : WX} {sts : List Stmt} {f : M Fl} {is : List Nat} {i : Nat}
theorem svs_kill (h : SVs X W sts f) : SVs X W sts (mSeq (mKill is) f) := fun F ρ σ B H N L P => h F _ σ B H N (L.kill is) P
theorem svs_frz (h : SVs X W sts f) : SVs X W sts (mSeq (mFrz i) f) := by
  intro F ρ σ B H N L P
  have P' : PostS X W F B (M.bind (mFrz i) _ ρ) N := P
  unfold M.bind mFrz at P'
  cases q : ρ[i]? with
  | none => rw [q] at P'; exact h F ρ σ B H N L P'
  | some s =>
    cases s with
    | ow d =>
      rw [q] at P'
      obtain ⟨B', v, e1, _, _, L'⟩ := L.frz q
      exact h F _ σ B' H N L' (PostS.weak P' e1)
    | dp m d =>
      rw [q] at P'
      obtain ⟨B', v, e1, _, _, L'⟩ := L.frz0 q rfl
      exact h F _ σ B' H N L' (PostS.weak P' e1)
    | un => rw [q] at P'; exact h F ρ σ B H N L P'
    | fz d => rw [q] at P'; exact h F ρ σ B H N L P'
    | io d => rw [q] at P'; exact h F ρ σ B H N L P'
end
section
variable {α β : Type} {F : α → D} {G : β → D} {ρ ρ1 ρ2 : Env} {f f1 f2 : M D} {fs : M (List D)} {ds : List D}
theorem rangeD_eq (lo hi : Int) : rangeD lo hi = (rangeI lo hi).map D.int := by
  unfold rangeD rangeI
  rw [List.map_map]; rfl
theorem i_L {xs : List α} (h : f ρ = .ok (eL F xs) ρ1) : mIter f ρ = .ok (xs.map F) ρ1 := by unfold mIter M.bind; rw [h]; rfl
theorem i_r1 {j : Int} (h : fs ρ = .ok [.int j] ρ1) (hb : -100000000 < j ∧ j < 100000000) : mRange1 fs ρ = .ok ((rangeI 0 j).map D.int) ρ1 := by
  unfold mRange1 M.bind; rw [h]; dsimp only; rw [if_pos hb, rangeD_eq]; rfl
theorem zip_eq : ∀ (xs : List α) (ys : List β), List.zipWith (fun x y => D.tup [x, y]) (xs.map F) (ys.map G) = (xs.zip ys).map (eT2 F G)
  | [], ys => by simp
  | x :: xs, [] => by simp
  | x :: xs, y :: ys => by
    simp only [List.map_cons, List.zipWith_cons_cons, List.zip_cons_cons, zip_eq xs ys]
    rfl
theorem i_zip {xs : List α} {ys : List β} (h : fs ρ = .ok [eL F xs, eL G ys] ρ1) : mZip fs ρ = .ok ((xs.zip ys).map (eT2 F G)) ρ1 := by
  unfold mZip M.bind; rw [h]; dsimp only [eL]; rw [zip_eq]; rfl
theorem enum_eq : ∀ (k : Nat) (xs : List α), enumD k (xs.map F) = (((List.range' k xs.length).map fun (i : Nat) => (i : Int)).zip xs).map (eT2 D.int F)
  | k, [] => rfl
  | k, x :: xs => by
    rw [List.map_cons, List.length_cons, List.range'_succ]
    show D.tup [.int (k : Nat), F x] :: enumD (k + 1) (xs.map F) = _
    rw [enum_eq (k + 1) xs]; rfl
theorem rangeI_nat (n : Nat) : rangeI 0 n = (List.range' 0 n).map fun (i : Nat) => (i : Int) := by
  unfold rangeI
  rw [Int.sub_zero, Int.toNat_natCast, List.range_eq_range']
  refine List.map_congr_left fun i _ => ?_
  omega
theorem i_enum {xs : List α} (h : fs ρ = .ok [eL F xs] ρ1) : mEnum fs ρ = .ok ((enumI xs).map (eT2 D.int F)) ρ1 := by
  unfold mEnum M.bind; rw [h]; dsimp only [eL]; rw [enum_eq]; unfold enumI; rw [rangeI_nat]; rfl
theorem cut_map {xs : List α} {lo hi : Option Int} : cutD (xs.map F) lo hi = (cut xs lo hi).map F := by
  unfold cutD cut
  rw [List.length_map, List.map_take, List.map_drop]
theorem pt0 : mPart none ρ = .ok none ρ := rfl
theorem pt1 {i : Int} (h : f ρ = .ok (.int i) ρ1) : mPart (some f) ρ = .ok (some i) ρ1 := by unfold mPart M.bind; dsimp only; rw [h]; rfl
theorem slL {xs : List α} {fl fh : M (Option Int)} {lo hi : Option Int} {ρ3 : Env} (h : f ρ = .ok (eL F xs) ρ1) (hl : fl ρ1 = .ok lo ρ2) (hh : fh ρ2 = .ok hi ρ3) : mSl f fl fh ρ = .ok (eL F (cut xs lo hi), .tt) ρ3 := by
  unfold mSl M.bind; rw [h]; dsimp only; rw [hl]; dsimp only; rw [hh]; dsimp only [eL, dSl]; rw [cut_map]; rfl
theorem lofL {xs : List α} (h : fs ρ = .ok [eL F xs] ρ1) : mListOf fs ρ = .ok (eL F xs, .tt) ρ1 := by unfold mListOf M.bind; rw [h]; rfl
theorem lrg1 {j : Int} (h : f ρ = .ok (.int j) ρ1) (hb : -10000 < j ∧ j < 10000) : mListRg1 f ρ = .ok (eL D.int (rangeI 0 j), .tt) ρ1 := by
  unfold mListRg1 M.bind; rw [h]; dsimp only; rw [if_pos hb, rangeD_eq]; rfl
theorem repO {xs : List α} {q : Int} (h : f1 ρ = .ok (eL F xs) ρ1) (h2 : f2 ρ1 = .ok (.int q) ρ2) (hl : q < 10000 ∧ -10000 < q ∧ xs.length ≤ 1000) : mRepO f1 f2 ρ = .ok (eL F (repI xs q), .tt) ρ2 := by
  unfold mRepO M.bind; rw [h]; dsimp only; rw [h2]; dsimp only [eL]
  rw [if_pos (by rw [List.length_map]; exact hl), map_flat]; rfl
end
section
variable {α β σ : Type} {F : α → D} {G : β → D} {own : List Nat} {f : M (List D)} {g : D → Env → Option Env} {t : M Bool} {e : M D} {ρ ρ0 ρ1 ρ9 : Env}
theorem lcL_pure {p : α → Bool} {φ : α → β} : ∀ (xs : List α) (acc : List D), (∀ x ∈ xs, ∃ ρx, g (F x) ρ1 = some ρx ∧ t ρx = .ok (p x) ρx ∧ wipeE ρx own = ρ1 ∧ (p x = true → ∃ ρz, e ρx = .ok (G (φ x)) ρz ∧ wipeE ρz own = ρ1)) → acc.length + xs.length ≤ 10000 →
    mLcL own g t e (xs.map F) acc ρ1 = .ok (acc ++ ((xs.filter p).map φ).map G) ρ1
  | [], acc, _, _ => by simp [mLcL, M.pure]
  | x :: xs, acc, h, hl => by
    obtain ⟨ρx, h1, h2, h3, h4⟩ := h x (by simp)
    rw [List.length_cons] at hl
    have ih := fun acc' hl' => lcL_pure (p := p) (φ := φ) xs acc' (fun y hy => h y (List.mem_cons_of_mem _ hy)) hl'
    rw [List.map_cons]
    unfold mLcL
    rw [h1]
    dsimp only
    unfold M.bind mNoR
    rw [h2]
    dsimp only
    cases q : p x with
    | false =>
      rw [List.filter_cons_of_neg (by simp [q])]
      dsimp only
      rw [h3]
      exact ih acc (by omega)
    | true =>
      obtain ⟨ρz, h5, h6⟩ := h4 q
      rw [List.filter_cons_of_pos q]
      dsimp only
      rw [h5]
      dsimp only
      rw [if_pos (by omega), h6, ih _ (by rw [List.length_append, List.length_singleton]; omega)]
      simp
theorem lcP {p : α → Bool} {φ : α → β} {xs : List α} (hf : f ρ = .ok (xs.map F) ρ0) (hρ : wipeE ρ0 own = ρ1) (hb : ∀ x ∈ xs, ∃ ρx, g (F x) ρ1 = some ρx ∧ t ρx = .ok (p x) ρx ∧ wipeE ρx own = ρ1 ∧ (p x = true → ∃ ρz, e ρx = .ok (G (φ x)) ρz ∧ wipeE ρz own = ρ1)) (hl : xs.length ≤ 10000) (h9 : wipeE ρ1 own = ρ9) :
    mLc own f g t e ρ = .ok (eL G ((xs.filter p).map φ), .tt) ρ9 := by
  unfold mLc M.bind
  rw [hf]
  dsimp only
  rw [hρ, lcL_pure xs [] hb (by simpa using hl)]
  dsimp only
  rw [h9]; rfl
theorem lcM {φ : α → β} {xs : List α} (hf : f ρ = .ok (xs.map F) ρ0) (hρ : wipeE ρ0 own = ρ1) (hb : ∀ x ∈ xs, ∃ ρx, g (F x) ρ1 = some ρx ∧ wipeE ρx own = ρ1 ∧ ∃ ρz, e ρx = .ok (G (φ x)) ρz ∧ wipeE ρz own = ρ1) (hl : xs.length ≤ 10000) (h9 : wipeE ρ1 own = ρ9) :
    mLc own f g (M.pure true) e ρ = .ok (eL G (xs.map φ), .tt) ρ9 := by
  have := lcP (t := M.pure true) (p := fun _ => true) (φ := φ) hf hρ (fun x hx => by
    obtain ⟨ρx, h1, h2, h3⟩ := hb x hx
    exact ⟨ρx, h1, rfl, h2, fun _ => h3⟩) hl h9
  rw [List.filter_eq_self.mpr (fun _ _ => rfl)] at this
  exact this
theorem lcL_st {ctx : σ → Env} {p : α → σ → Bool × σ} {φ : α → σ → β × σ} {S : α → σ → Prop} : ∀ (xs : List α) (acc : List D) (s : σ), slcS p φ S xs s →
    (∀ x s, S x s → ∃ (cx : σ → Env), g (F x) (ctx s) = some (cx s) ∧ t (cx s) = .ok (p x s).1 (cx (p x s).2) ∧ (∀ s', wipeE (cx s') own = ctx s') ∧ ((p x s).1 = true → e (cx (p x s).2) = .ok (G (φ x (p x s).2).1) (cx (φ x (p x s).2).2))) → acc.length + xs.length ≤ 10000 →
    mLcL own g t e (xs.map F) acc (ctx s) = .ok (acc ++ (lcS p φ xs s).1.map G) (ctx (lcS p φ xs s).2)
  | [], acc, s, _, _, _ => by simp [mLcL, M.pure, lcS]
  | x :: xs, acc, s, hs, h, hl => by
    obtain ⟨cx, h1, h2, h3, h4⟩ := h x s hs.1
    rw [List.length_cons] at hl
    have ih := fun acc' s' hs' hl' => lcL_st (p := p) (φ := φ) (S := S) xs acc' s' hs' h hl'
    rw [List.map_cons]
    unfold mLcL
    rw [h1]
    dsimp only
    unfold M.bind mNoR
    rw [h2]
    dsimp only
    unfold lcS
    cases q : (p x s).1 with
    | false =>
      dsimp only [cond_false]
      rw [h3]
      exact ih acc _ (hs.2.2 q) (by omega)
    | true =>
      dsimp only [cond_true]
      rw [h4 q]
      dsimp only
      rw [if_pos (by omega), h3, ih _ _ (hs.2.1 q) (by rw [List.length_append, List.length_singleton]; omega)]
      simp
theorem lcSt {ctx ctx9 : σ → Env} {p : α → σ → Bool × σ} {φ : α → σ → β × σ} {S : α → σ → Prop} {xs : List α} {s : σ} (hf : f ρ = .ok (xs.map F) ρ0) (hρ : wipeE ρ0 own = ctx s) (hs : slcS p φ S xs s)
    (hb : ∀ x s, S x s → ∃ (cx : σ → Env), g (F x) (ctx s) = some (cx s) ∧ t (cx s) = .ok (p x s).1 (cx (p x s).2) ∧ (∀ s', wipeE (cx s') own = ctx s') ∧ ((p x s).1 = true → e (cx (p x s).2) = .ok (G (φ x (p x s).2).1) (cx (φ x (p x s).2).2))) (hl : xs.length ≤ 10000) (h9 : ∀ s, wipeE (ctx s) own = ctx9 s) :
    mLc own f g t e ρ = .ok (eL G (lcS p φ xs s).1, .tt) (ctx9 (lcS p φ xs s).2) := by
  unfold mLc M.bind
  rw [hf]
  dsimp only
  rw [hρ, lcL_st xs [] s hs hb (by simpa using hl)]
  dsimp only
  rw [h9]; rfl
end
section
variable {β τ : Type} {J : Rs Fl → β → Prop} {ρ ρ1 ρ2 : Env} {f g k : M Fl} {fo : M (D × Ob)} {fd fk fe : M D} {fs : M (List D)} {t : M Bool} {c : Bool} {x y : β} {d d2 : D} {i j : Nat} {o : Ob}
theorem sq_eq (h1 : f ρ = .ok .nx ρ1) : mSeq f g ρ = g ρ1 := by unfold mSeq M.bind; rw [h1]
theorem sq (h1 : f ρ = .ok .nx ρ1) (h2 : J (g ρ1) x) : J (mSeq f g ρ) x := by rw [sq_eq h1]; exact h2
theorem sqB {ctx : τ → Env} {v : τ} {b : τ → β} {S : τ → Prop} (h1 : f ρ = .ok .nx (ctx v)) (hs : bd v S) (h2 : ∀ v, S v → J (g (ctx v)) (b v)) : J (mSeq f g ρ) (bd v b) := sq h1 (h2 v hs)
theorem mIf_t {α : Type} {f g : M α} (h : t ρ = .ok true ρ1) : mIf t f g ρ = f ρ1 := by unfold mIf M.bind; rw [h]
theorem mIf_f {α : Type} {f g : M α} (h : t ρ = .ok false ρ1) : mIf t f g ρ = g ρ1 := by unfold mIf M.bind; rw [h]
theorem sqIf (h : t ρ = .ok c ρ1) (h1 : c = true → J (mSeq f k ρ1) x) (h2 : c = false → J (mSeq g k ρ1) y) : J (mSeq (mIf t f g) k ρ) (cond c x y) := by
  cases c with
  | true =>
    have e : mSeq (mIf t f g) k ρ = mSeq f k ρ1 := by unfold mSeq M.bind; rw [mIf_t h]
    rw [e]; exact h1 rfl
  | false =>
    have e : mSeq (mIf t f g) k ρ = mSeq g k ρ1 := by unfold mSeq M.bind; rw [mIf_f h]
    rw [e]; exact h2 rfl
theorem ifJ {ctx : τ → Env} {v w : τ} (h : t ρ = .ok c ρ1) (h1 : c = true → f ρ1 = .ok .nx (ctx v)) (h2 : c = false → g ρ1 = .ok .nx (ctx w)) : mIf t f g ρ = .ok .nx (ctx (cond c v w)) := by
  unfold mIf M.bind; rw [h]
  cases c with
  | true => exact h1 rfl
  | false => exact h2 rfl
theorem sSet (h : fo ρ = .ok (d, .ff) ρ1) (e : ρ1.set i (.fz d) = ρ2) : mSet i fo ρ = .ok .nx ρ2 := by unfold mSet M.bind; rw [h]; subst e; rfl
theorem sSetO (h : fo ρ = .ok (d, .tt) ρ1) (e : ρ1.set i (.ow d) = ρ2) : mSet i fo ρ = .ok .nx ρ2 := by unfold mSet M.bind; rw [h]; subst e; rfl
theorem sAsg {gg : D → Env → Option Env} (h : fd ρ = .ok d ρ1) (e : gg d ρ1 = some ρ2) : mAsg gg fd ρ = .ok .nx ρ2 := by unfold mAsg M.bind; rw [h]; dsimp only; rw [e]
theorem sDrop (h : fd ρ = .ok d ρ1) : mDrop fd ρ = .ok .nx ρ1 := by unfold mDrop M.bind; rw [h]; rfl
theorem sKill {is : List Nat} (e : wipeE ρ is = ρ2) : mKill is ρ = .ok .nx ρ2 := by unfold mKill; rw [e]
theorem sFrz (h : ρ[i]? = some (.ow d)) (e : ρ.set i (.fz d) = ρ2) : mFrz i ρ = .ok .nx ρ2 := by unfold mFrz; rw [h]; dsimp only; rw [e]
theorem ret_eq (h : fo ρ = .ok (d, o) ρ1) : mRet fo ρ = .ok (.rt d o) ρ1 := by unfold mRet M.bind; rw [h]; rfl
theorem sRet (h : fo ρ = .ok (d, o) ρ1) (h2 : J (.ok (.rt d o) ρ1) x) : J (mRet fo ρ) x := by rw [ret_eq h]; exact h2
theorem sqRet (h : fo ρ = .ok (d, o) ρ1) (h2 : J (.ok (.rt d o) ρ1) x) : J (mSeq (mRet fo) g ρ) x := by
  unfold mSeq M.bind; rw [ret_eq h]; exact h2
variable {α : Type} {F : α → D} {xs : List α} {v : α} {z : Int}
theorem sPutO (h1 : fe ρ = .ok (F v) ρ1) (h2 : fk ρ1 = .ok (.int z) ρ2) (h0 : ρ1[i]? = some (.ow (eL F xs))) (h : ρ2[i]? = some (.ow (eL F xs))) (hb : InB xs.length z) {ρ3 : Env} (e : ρ2.set i (.ow (eL F (setI xs z v))) = ρ3) : mPutAt i fe fk ρ = .ok .nx ρ3 := by
  obtain ⟨a, b⟩ := ixN_of hb
  unfold mPutAt M.bind
  rw [h1]; dsimp only
  unfold chk
  rw [h0]; dsimp only
  rw [h2]; dsimp only
  rw [h]; dsimp only [eL]
  rw [List.length_map, a]; dsimp only
  rw [← e]; unfold setI eL; rw [List.map_set]
theorem sApp (h1 : fe ρ = .ok (F v) ρ1) (h0 : ∃ ys : List α, ρ[i]? = some (.ow (eL F ys))) (h : ρ1[i]? = some (.ow (eL F xs))) (hl : xs.length < 10000) (e : ρ1.set i (.ow (eL F (xs ++ [v]))) = ρ2) : mApp1 i fe ρ = .ok .nx ρ2 := by
  obtain ⟨ys, h0⟩ := h0
  unfold mApp1 M.bind chkL
  dsimp only
  rw [h0]; dsimp only [eL]
  rw [h1]; dsimp only
  unfold mUpd
  rw [h]; dsimp only [eL]
  rw [if_pos (by rw [List.length_map]; exact hl)]; dsimp only
  rw [← e]; unfold eL; rw [List.map_append]; rfl
theorem sAugI {h : Int → Int → Int} {a b : Int} (h0 : ρ[i]? = some (.fz (.int a))) (h1 : fd ρ = .ok (.int b) ρ) (e : ρ.set i (.fz (.int (h a b))) = ρ2) : mAugI i h fd ρ = .ok .nx ρ2 := by
  unfold mAugI M.bind chk
  rw [h0]; dsimp only
  rw [h1]; dsimp only
  rw [h0]; dsimp only
  rw [e]
end
end Dt
namespace Dt
open PySem L2
section
variable {β γ σ : Type}
def JN (ctx : σ → Env) (r : Rs Fl) (s : σ) : Prop := r = .ok .nx (ctx s)
def JR (F : β → D) (o : Ob) (r : Rs Fl) (x : β) : Prop := ∃ ρ', r = .ok (.rt (F x) o) ρ'
def JI (j : Nat) (F : β → D) (G : γ → D) (o : Ob) (r : Rs Fl) (x : β × γ) : Prop := ∃ ρ', r = .ok (.rt (F x.1) o) ρ' ∧ ρ'[j]? = some (.io (G x.2))
def JE (r : Rs Fl) (_ : Unit) : Prop := ∃ ρ', r = .ok .nx ρ'
variable {n j : Nat} {fb : M Fl} {ds : List D} {F : β → D} {G : γ → D} {o : Ob} {ρ : Env}
theorem jr_mk {x : β} {d : D} (e : d = F x) : JR F o (.ok (.rt d o) ρ) x := ⟨ρ, by rw [e]⟩
theorem ji_mk {a : β} {b : γ} {d : D} (e : d = F a) (h : ρ[j]? = some (.io (G b))) : JI j F G o (.ok (.rt d o) ρ) (a, b) := ⟨ρ, by rw [e], h⟩
theorem run0 {x : β} (h : JR F o (fb (initE none n ds)) x) : runF none n fb ds = .ok (F x) o .non := by
  obtain ⟨ρ', h⟩ := h
  unfold runF; rw [h]; rfl
theorem runI {x : β × γ} (h : JI j F G o (fb (initE (some j) n ds)) x) : runF (some j) n fb ds = .ok (F x.1) o (G x.2) := by
  obtain ⟨ρ', h, h2⟩ := h
  unfold runF; rw [h]; dsimp only; unfold fin; dsimp only; rw [h2]
theorem runE {x : Unit} (h : JE (fb (initE none n ds)) x) : runF none n fb ds = .ok (eN x) .ff .non := by
  obtain ⟨ρ', h⟩ := h
  unfold runF; rw [h]; rfl
end
section
variable {α β γ σ : Type} {F : α → D} {f : M (List D)} {g : D → Env → Option Env} {b k : M Fl} {ρ : Env} {ctx : σ → Env}
theorem forL_fl {step : σ → α → σ} {S : σ → α → Prop} (hb : ∀ s x, S s x → ∃ ρ1, g (F x) (ctx s) = some ρ1 ∧ JN ctx (b ρ1) (step s x)) : ∀ (xs : List α) (s : σ), sfl step S xs s → mForL g b (xs.map F) (ctx s) = .ok .nx (ctx (xs.foldl step s))
  | [], s, _ => rfl
  | x :: r, s, h => by
    obtain ⟨ρ1, h1, h2⟩ := hb s x h.1
    unfold JN at h2
    rw [List.map_cons]
    unfold mForL
    rw [h1]; dsimp only
    unfold M.bind
    rw [h2]
    exact forL_fl hb r _ h.2
theorem forN {step : σ → α → σ} {S : σ → α → Prop} {xs : List α} {s : σ} (hf : f ρ = .ok (xs.map F) (ctx s)) (hs : sfl step S xs s) (hb : ∀ s x, S s x → ∃ ρ1, g (F x) (ctx s) = some ρ1 ∧ JN ctx (b ρ1) (step s x)) : mFor f g b ρ = .ok .nx (ctx (xs.foldl step s)) := by
  unfold mFor M.bind
  rw [hf]
  exact forL_fl hb xs s hs
theorem swN_stops {c : σ → Bool} {w : σ → σ} {S : σ → Prop} {t : M Bool} (ht : ∀ s, S s → t (ctx s) = .ok (c s) (ctx s)) (hb : ∀ s, S s → c s = true → JN ctx (b (ctx s)) (w s)) : ∀ (n : Nat) (s : σ), swN c w S n s → mWhN t b n (ctx s) = .ok .nx (ctx (itN c w n s))
  | 0, _, h => h.elim
  | n + 1, s, h => by
    unfold mWhN M.bind itN
    rw [ht s h.1]
    cases q : c s with
    | false => rfl
    | true =>
      have h2 := hb s h.1 q
      unfold JN at h2
      dsimp only
      rw [h2]
      exact swN_stops ht hb n (w s) (h.2 q)
theorem whN {c : σ → Bool} {w : σ → σ} {S : σ → Prop} {t : M Bool} {s : σ} (hs : swh c w S s) (ht : ∀ s, S s → t (ctx s) = .ok (c s) (ctx s)) (hb : ∀ s, S s → c s = true → JN ctx (b (ctx s)) (w s)) : mWh t b (ctx s) = .ok .nx (ctx (whl c w s)) := by
  obtain ⟨n, hn⟩ := hs
  have h := swN_stops ht hb n s hn
  rw [mWh_eq (n := n) (by rw [h]; simp), h, whl_eq (swN_st n s hn)]
end
structure Gd (n : Nat) {α : Type} (F : α → D) : Prop where
  ok : ∀ x, okD n (F x) = true
  pl : ∀ x, plD n (F x) = true
  inj : ∀ x y, F x = F y → x = y
section
variable {n m : Nat} {α β γ δ : Type} {F : α → D} {G : β → D} {H : γ → D} {K : δ → D}
theorem okD_up : ∀ {n m : Nat} {d : D}, n ≤ m → okD n d = true → okD m d = true
  | n, m, .non, _, _ => okD_non
  | n, m, .bl _, _, _ => okD_bl
  | n, m, .int _, _, _ => okD_int
  | n, m, .str x, _, h => by cases n <;> cases m <;> exact h
  | 0, _, .lst _, _, h => by cases h
  | 0, _, .tup _, _, h => by cases h
  | 0, _, .scr _, _, h => by cases h
  | n, m, .dic _ _, _, h => by cases n <;> cases h
  | n, m, .dct _ _, _, h => by cases n <;> cases h
  | n, m, .obj _, _, h => by cases n <;> cases h
  | 0, _, .key _, _, h => by cases h
  | n + 1, m + 1, .key _, _, h => h
  | n + 1, 0, _, hm, _ => by omega
  | n + 1, m + 1, .lst xs, hm, h => by
    rw [okD_lst, List.all_eq_true] at h ⊢
    exact fun x hx => okD_up (by omega) (h x hx)
  | n + 1, m + 1, .tup xs, hm, h => by
    rw [okD_tup, List.all_eq_true] at h ⊢
    exact fun x hx => okD_up (by omega) (h x hx)
  | n + 1, m + 1, .scr _, _, _ => rfl
theorem plD_up : ∀ {n m : Nat} {d : D}, n ≤ m → plD n d = true → plD m d = true
  | n, m, .non, _, _ => plD_non
  | n, m, .bl _, _, h => by cases n <;> cases h
  | n, m, .int _, _, _ => plD_int
  | n, m, .str x, _, h => by cases m <;> rfl
  | 0, _, .lst _, _, h => by cases h
  | 0, _, .tup _, _, h => by cases h
  | n, _, .scr _, _, h => by cases n <;> cases h
  | n, _, .dic _ _, _, h => by cases n <;> cases h
  | n, _, .dct _ _, _, h => by cases n <;> cases h
  | n, _, .obj _, _, h => by cases n <;> cases h
  | n, _, .key _, _, h => by cases n <;> cases h
  | n + 1, 0, _, hm, _ => by omega
  | n + 1, m + 1, .lst xs, hm, h => by
    rw [plD_lst, List.all_eq_true] at h ⊢
    exact fun x hx => plD_up (by omega) (h x hx)
  | n + 1, m + 1, .tup xs, hm, h => by
    rw [plD_tup, List.all_eq_true] at h ⊢
    exact fun x hx => plD_up (by omega) (h x hx)
theorem Gd.up (h : Gd n F) (l : n ≤ m) : Gd m F := ⟨fun x => okD_up l (h.ok x), fun x => plD_up l (h.pl x), h.inj⟩
theorem gI : Gd 0 D.int := ⟨fun _ => rfl, fun _ => rfl, fun x y h => by injection h⟩
theorem gQ : Gd 1 fq := ⟨fun _ => rfl, fun _ => rfl, fun x y h => by
  injection h with h
  injection h with h1 h
  injection h with h2 h
  injection h1 with h1
  injection h2 with h2
  exact Rat.ext h1 (by omega)⟩
theorem map_inj (h : ∀ x y, F x = F y → x = y) : ∀ {xs ys : List α}, xs.map F = ys.map F → xs = ys
  | [], [], _ => rfl
  | [], _ :: _, e => by cases e
  | _ :: _, [], e => by cases e
  | x :: xs, y :: ys, e => by
    injection e with e1 e2
    rw [h x y e1, map_inj h e2]
theorem gL (h : Gd n F) : Gd (n + 1) (eL F) := ⟨fun xs => by
    show (xs.map F).all (okD n) = true
    rw [List.all_map, List.all_eq_true]; exact fun x _ => h.ok x, fun xs => by
    show (xs.map F).all (plD n) = true
    rw [List.all_map, List.all_eq_true]; exact fun x _ => h.pl x, fun x y e => by injection e with e; exact map_inj h.inj e⟩
theorem gT2 (h : Gd n F) (k : Gd n G) : Gd (n + 1) (eT2 F G) := ⟨fun p => by
    show (okD n (F p.1) && (okD n (G p.2) && true)) = true
    rw [h.ok, k.ok]; rfl, fun p => by
    show (plD n (F p.1) && (plD n (G p.2) && true)) = true
    rw [h.pl, k.pl]; rfl, fun x y e => by
    injection e with e
    injection e with e1 e
    injection e with e2 e
    exact Prod.ext (h.inj _ _ e1) (k.inj _ _ e2)⟩
theorem gT3 (h : Gd n F) (k : Gd n G) (l : Gd n H) : Gd (n + 1) (eT3 F G H) := ⟨fun p => by
    show (okD n (F p.1) && (okD n (G p.2.1) && (okD n (H p.2.2) && true))) = true
    rw [h.ok, k.ok, l.ok]; rfl, fun p => by
    show (plD n (F p.1) && (plD n (G p.2.1) && (plD n (H p.2.2) && true))) = true
    rw [h.pl, k.pl, l.pl]; rfl, fun x y e => by
    injection e with e
    injection e with e1 e
    injection e with e2 e
    injection e with e3 e
    exact Prod.ext (h.inj _ _ e1) (Prod.ext (k.inj _ _ e2) (l.inj _ _ e3))⟩
theorem Gd.gd (h : Gd n F) (l : n ≤ 20 := by decide) (x : α) : gdD (F x) := ⟨okD_up l (h.ok x), plD_up l (h.pl x)⟩
theorem o_eq [DecidableEq α] (h : Gd n F) {x y : α} (l : n ≤ 20 := by decide) : dEq (F x) (F y) = some (.bl (decide (x = y))) := by
  by_cases q : x = y
  · subst q; rw [dEq_self (h.gd l x)]; simp
  · rw [dEq_ne (h.gd l x) (h.gd l y) (fun z => q (h.inj x y z))]; simp [q]
theorem o_ne [DecidableEq α] (h : Gd n F) {x y : α} (l : n ≤ 20 := by decide) : dNe (F x) (F y) = some (.bl (!decide (x = y))) := dNe_not (o_eq h l)
structure Gx (n : Nat) {α : Type} (F : α → D) : Prop where
  pl : ∀ x, plD n (F x) = true
  inj : ∀ x y, F x = F y → x = y
theorem Gd.gx (h : Gd n F) : Gx n F := ⟨h.pl, h.inj⟩
theorem Gx.up (h : Gx n F) (l : n ≤ m) : Gx m F := ⟨fun x => plD_up l (h.pl x), h.inj⟩
theorem xSt : Gx 0 D.str := ⟨fun _ => rfl, fun x y h => by injection h⟩
theorem xL (h : Gx n F) : Gx (n + 1) (eL F) := ⟨fun xs => by
    show (xs.map F).all (plD n) = true
    rw [List.all_map, List.all_eq_true]; exact fun x _ => h.pl x, fun x y e => by injection e with e; exact map_inj h.inj e⟩
theorem xT4 (h : Gx n F) (k : Gx n G) (l : Gx n H) (m : Gx n K) : Gx (n + 1) (eT4 F G H K) := ⟨fun p => by
    show (plD n (F p.1) && (plD n (G p.2.1) && (plD n (H p.2.2.1) && (plD n (K p.2.2.2) && true)))) = true
    rw [h.pl, k.pl, l.pl, m.pl]; rfl, fun x y e => by
    injection e with e
    injection e with e1 e
    injection e with e2 e
    injection e with e3 e
    injection e with e4 e
    exact Prod.ext (h.inj _ _ e1) (Prod.ext (k.inj _ _ e2) (Prod.ext (l.inj _ _ e3) (m.inj _ _ e4)))⟩
def Gy (n : Nat) {α : Type} (F : α → D) : Prop := ∀ x, plD n (F x) = true
theorem yNum : Gy 2 eNum := fun x => by
    cases x with
    | inl r => exact (gL gQ).gx.pl r
    | inr c => exact ((gL gI).gx.up (by decide : 1 ≤ 2)).pl c
theorem Gy.up (h : Gy n F) (l : n ≤ m) : Gy m F := fun x => plD_up l (h x)
theorem yT2 (h : Gy n F) (k : Gy n G) : Gy (n + 1) (eT2 F G) := fun p => by
    show (plD n (F p.1) && (plD n (G p.2) && true)) = true
    rw [h, k]; rfl
theorem yT3 (h : Gy n F) (k : Gy n G) (l : Gy n H) : Gy (n + 1) (eT3 F G H) := fun p => by
    show (plD n (F p.1) && (plD n (G p.2.1) && (plD n (H p.2.2) && true))) = true
    rw [h, k, l]; rfl
theorem xLine : Gx 3 eLine := xT4 (n := 2) (gL gQ).gx (gQ.gx.up (by decide)) (gI.gx.up (by decide)) (xSt.up (by decide))
theorem gStand : Gd 4 eStand := gT3 (n := 3) (gI.up (by decide)) (gQ.up (by decide)) (gL (gT2 (n := 1) (gI.up (by decide)) gQ))
theorem yC : Gy 3 eC := yT2 (n := 2) (Gy.up (n := 0) (fun _ => rfl) (by decide)) yNum
theorem yNet : Gy 6 eNet := yT3 (n := 5) (((xL xLine).up (by decide)).pl) (gL gStand).pl (yC.up (by decide))
def OkE (F : α → D) (x : α) : Prop := okD 20 (F x) = true
theorem o_eqx [DecidableEq α] (h : Gx n F) {x y : α} (hx : OkE F x) (hy : OkE F y) (l : n ≤ 20 := by decide) : dEq (F x) (F y) = some (.bl (decide (x = y))) := by
  by_cases q : x = y
  · subst q; rw [dEq_self ⟨hx, plD_up l (h.pl x)⟩]; simp
  · rw [dEq_ne ⟨hx, plD_up l (h.pl x)⟩ ⟨hy, plD_up l (h.pl y)⟩ (fun z => q (h.inj x y z))]; simp [q]
theorem o_eqy [DecidableEq α] (h : Gy n F) {x y : α} (hx : OkE F x) (hy : OkE F y) (hi : F x = F y → x = y) (l : n ≤ 20 := by decide) : dEq (F x) (F y) = some (.bl (decide (x = y))) := by
  by_cases q : x = y
  · subst q; rw [dEq_self ⟨hx, plD_up l (h x)⟩]; simp
  · rw [dEq_ne ⟨hx, plD_up l (h x)⟩ ⟨hy, plD_up l (h y)⟩ (fun z => q (hi z))]; simp [q]
theorem o_ney [DecidableEq α] (h : Gy n F) {x y : α} (hx : OkE F x) (hy : OkE F y) (hi : F x = F y → x = y) (l : n ≤ 20 := by decide) : dNe (F x) (F y) = some (.bl (!decide (x = y))) := dNe_not (o_eqy h hx hy hi l)
end
section
variable {ρ ρ1 ρ2 : Env} {i : Nat} {α : Type} {F : α → D} {xs : List α} {fk fe f2 : M D} {z : Int} {d y : D} {c : Bool} {T : String}
theorem contR_some {s : Option Slot} {d : D} (h : contR s = some d) : ∃ t, s = some t ∧ ∀ ρ : Env, ∀ i : Nat, ρ[i]? = s → chk i ρ = .ok () ρ := by
  cases s with
  | none => cases h
  | some t =>
    refine ⟨t, rfl, fun ρ i q => ?_⟩
    unfold chk
    rw [q]
    cases t with
    | un => cases h
    | fz _ => rfl
    | ow _ => rfl
    | io _ => rfl
    | dp _ _ => cases h
theorem chk_of {d : D} (h : contR ρ[i]? = some d) : chk i ρ = .ok () ρ := by
  obtain ⟨t, e, k⟩ := contR_some h
  exact k ρ i rfl
theorem pk [Inhabited α] (h0 : contR ρ[i]? = some (eL F xs)) (h1 : fk ρ = .ok (.int z) ρ1) (h2 : contR ρ1[i]? = some (eL F xs)) (hb : InB xs.length z) : mPeek i fk ρ = .ok (F (ix xs z)) ρ1 := by
  unfold mPeek M.bind
  rw [chk_of h0]; dsimp only
  rw [h1]; dsimp only
  rw [h2]; dsimp only [Option.bind]
  rw [o_ixLL hb]
theorem lnL (h0 : contR ρ[i]? = some (eL F xs)) : mLenL i ρ = .ok (.int xs.length) ρ := by
  unfold mLenL M.bind
  rw [chk_of h0]; dsimp only
  rw [h0]; dsimp only [Option.bind]
  rw [o_lenL]
theorem bnL {g : D → D → Option D} (h0 : contR ρ[i]? = some d) (h1 : f2 ρ = .ok y ρ1) (h2 : contR ρ1[i]? = some d) (h3 : g d y = some (.bl c)) : mBinL g i f2 ρ = .ok (.bl c) ρ1 := by
  unfold mBinL M.bind
  rw [chk_of h0]; dsimp only
  rw [h1]; dsimp only
  rw [h2]; dsimp only [Option.bind]
  rw [h3]; rfl
theorem isV {f : M D} (h : f ρ = .ok d ρ1) (h3 : dIsi T d = some (.bl c)) : mIsi T f ρ = .ok (.bl c) ρ1 := by
  unfold mIsi M.bind; rw [h]; dsimp only; unfold M.opt; rw [h3]
theorem popO [Inhabited α] (h0 : ∃ ys : List α, ρ[i]? = some (.ow (eL F ys))) (h1 : fk ρ = .ok (.int z) ρ1) (h2 : ρ1[i]? = some (.ow (eL F xs))) (hb : InB xs.length z) (hl : xs.length ≤ 10000) (e : ρ1.set i (.ow (eL F (xs.eraseIdx (ixN' xs.length z)))) = ρ2) : mPopAt i fk ρ = .ok (F (ix xs z)) ρ2 := by
  obtain ⟨_, h0⟩ := h0
  obtain ⟨a, b⟩ := ixN_of hb
  unfold mPopAt M.bind chkL
  dsimp only
  rw [h0]; dsimp only [eL]
  rw [h1]; dsimp only
  unfold mUpdE
  rw [h2]; dsimp only [eL]
  have q : popD (.int z) (xs.map F) = some (F (ix xs z), (xs.eraseIdx (ixN' xs.length z)).map F) := by
    unfold popD
    dsimp only
    rw [if_pos (by rw [List.length_map]; exact hl), List.length_map, a]
    dsimp only [Option.bind]
    rw [List.getElem?_map, List.getElem?_eq_getElem b]
    unfold ix
    rw [List.getD_eq_getElem?_getD, List.getElem?_eq_getElem b]
    have em : ∀ (ys : List α) (k : Nat), (ys.map F).eraseIdx k = (ys.eraseIdx k).map F := by
      intro ys
      induction ys with
      | nil => intro k; rfl
      | cons y ys ih => intro k; cases k with
        | zero => rfl
        | succ k => simp [ih]
    rw [em]
    rfl
  rw [q]; dsimp only
  rw [← e]; rfl
theorem any_in [DecidableEq α] (hf : ∀ x, flatD (F x) = true) (he : ∀ x y, eqF (F x) (F y) = decide (x = y)) (x : α) : ∀ xs : List α, (xs.map F).any (fun y => eqF y (F x)) = decide (x ∈ xs)
  | [] => by simp
  | y :: ys => by
    rw [List.map_cons, List.any_cons, any_in hf he x ys, he y x]
    by_cases q : y = x
    · simp [q]
    · simp [q, Ne.symm q]
theorem o_ninI {x : Int} {ys : List Int} : dIn true (.int x) (eL D.int ys) = some (.bl (!decide (x ∈ ys))) := by
  unfold dIn eL
  dsimp only
  rw [if_pos ⟨rfl, by rw [List.all_map, List.all_eq_true]; exact fun _ _ => rfl⟩, any_in (fun _ => rfl) (fun a b => by show (a == b) = _; rw [Bool.beq_eq_decide_eq])]
  rfl
theorem o_inSV {x : Str} {ys : List Str} : dIn false (.str x) (eV D.str ys) = some (.bl (decide (x ∈ ys))) := by
  unfold dIn eV
  dsimp only
  rw [if_pos ⟨rfl, by rw [List.all_map, List.all_eq_true]; exact fun _ _ => rfl⟩, any_in (fun _ => rfl) (fun a b => by show (a == b) = _; rw [Bool.beq_eq_decide_eq])]
  rfl
theorem o_lenNum {x : Num} : dLen [eNum x] = some (.int (numLen x : Int)) := by
  cases x with
  | inl r => exact o_lenL
  | inr c => exact o_lenL
theorem lofNum {fs : M (List D)} {x : Num} (h : fs ρ = .ok [eNum x] ρ1) : mListOf fs ρ = .ok (eNum x, .tt) ρ1 := by
  cases x with
  | inl r => exact lofL h
  | inr c => exact lofL h
theorem cNumQ {f : M D} {x : Num} (h : f ρ = .ok (eNum x) ρ1) (k : x.isLeft = true) : f ρ = .ok (eL fq (numQ x)) ρ1 := by
  cases x with
  | inl r => exact h
  | inr c => cases k
theorem cNumI {f : M D} {x : Num} (h : f ρ = .ok (eNum x) ρ1) (k : x.isRight = true) : f ρ = .ok (eL D.int (numI x)) ρ1 := by
  cases x with
  | inr r => exact h
  | inl c => cases k
theorem mkq_enc {p : Int × Int} (h : IsQ p) : eT2 D.int D.int p = fq (mkq p) := by
  obtain ⟨a, b⟩ := p
  obtain ⟨h1, h2⟩ := h
  dsimp only at h1 h2
  unfold fq mkq eT2
  dsimp only
  rw [Rat.num_divInt, Rat.den_divInt, if_neg (by omega), Int.gcd, Nat.gcd_comm, h2, Int.sign_eq_one_of_pos h1]
  simp
  omega
theorem cQ {f : M D} {p : Int × Int} (h : f ρ = .ok (eT2 D.int D.int p) ρ1) (k : IsQ p) : f ρ = .ok (fq (mkq p)) ρ1 := by rw [h, mkq_enc k]
theorem bdh {P Q : Prop} (h : P) (k : P → Q) : Q := k h
theorem jnE {σ : Type} {ctx : σ → Env} {r : Rs Fl} {s : σ} (h : JN ctx r s) : r = .ok .nx (ctx s) := h
end
end Dt
namespace Std
open PySem PySem.Spec PyProof.Rows L2 Dt
noncomputable def fb_common : M Fl :=
  mSeq (mWh (mTest (mBin dNe (mVar 1) (M.pure (.int 0)))) (mPar 0 1 (mCons (mVar 1) (mCons (mBin dMod (mVar 0) (mVar 1)) (mNil)))))
    (mRet (mMove 0))
noncomputable def fn_common : List D → Rf := runF none 2 fb_common
noncomputable def fb_fraction : M Fl :=
  mSeq (mIf (mTest (mBin dEq (mVar 1) (M.pure (.int 0)))) (M.raise "NoFraction") (mNx))
    (mSeq (mSet 2 (mCallN 2 none fn_common (xV (mCall dAbs (mCons (mVar 0) (mNil))) (xV (mCall dAbs (mCons (mVar 1) (mNil))) (xNil)))))
    (mSeq (mIf (mTest (mBin dLt (mVar 1) (M.pure (.int 0)))) (mSet 2 (mOf (mBin dSub (M.pure (.int 0)) (mVar 2)))) (mNx))
    (mRet (mOf (mTup (mCons (mBin dDiv (mVar 0) (mVar 2)) (mCons (mBin dDiv (mVar 1) (mVar 2)) (mNil))))))))
noncomputable def fn_fraction : List D → Rf := runF none 3 fb_fraction
noncomputable def fb_plus : M Fl :=
  mRet (mCallN 2 none fn_fraction (xV (mBin dAdd (mBin dMul (mBin dIx (mVar 0) (M.pure (.int 0))) (mBin dIx (mVar 1) (M.pure (.int 1)))) (mBin dMul (mBin dIx (mVar 1) (M.pure (.int 0))) (mBin dIx (mVar 0) (M.pure (.int 1))))) (xV (mBin dMul (mBin dIx (mVar 0) (M.pure (.int 1))) (mBin dIx (mVar 1) (M.pure (.int 1)))) (xNil))))
noncomputable def fn_plus : List D → Rf := runF none 2 fb_plus
noncomputable def fb_less : M Fl :=
  mRet (mCallN 2 none fn_fraction (xV (mBin dSub (mBin dMul (mBin dIx (mVar 0) (M.pure (.int 0))) (mBin dIx (mVar 1) (M.pure (.int 1)))) (mBin dMul (mBin dIx (mVar 1) (M.pure (.int 0))) (mBin dIx (mVar 0) (M.pure (.int 1))))) (xV (mBin dMul (mBin dIx (mVar 0) (M.pure (.int 1))) (mBin dIx (mVar 1) (M.pure (.int 1)))) (xNil))))
noncomputable def fn_less : List D → Rf := runF none 2 fb_less
noncomputable def fb_is_less : M Fl :=
  mRet (mOf (mBin dLt (mBin dMul (mBin dIx (mVar 0) (M.pure (.int 0))) (mBin dIx (mVar 1) (M.pure (.int 1)))) (mBin dMul (mBin dIx (mVar 1) (M.pure (.int 0))) (mBin dIx (mVar 0) (M.pure (.int 1))))))
noncomputable def fn_is_less : List D → Rf := runF none 2 fb_is_less
noncomputable def fb_total : M Fl :=
  mSeq (mSet 1 (mOf (M.pure (.tup [(.int 0), (.int 1)]))))
    (mSeq (mFor (mIter (mVar 0)) (gN 2) (mSet 1 (mCallN 2 none fn_plus (xV (mVar 1) (xV (mVar 2) (xNil))))))
    (mRet (mMove 1)))
noncomputable def fn_total : List D → Rf := runF none 3 fb_total
noncomputable def fb__law_stream : M Fl :=
  mSeq (mIf (mTest (mBin dLt (mVar 1) (mCall dLen (mCons (mVar 0) (mNil))))) (mSeq (mSet 2 (mOf (mBin dIx (mVar 0) (mVar 1))))
    (mSeq (mSet 3 (mOf (mBin dAdd (mBin dAdd (mBin dMod (mVar 2) (M.pure (.int 2147483629))) (mBin dMul (mVar 1) (mVar 1))) (M.pure (.int 1)))))
    (mSeq (mIf (mTest (mBin dLt (mVar 2) (mBin dPow (M.pure (.int 10)) (M.pure (.int 18))))) (mSet 2 (mOf (M.pure (.int 0)))) (mNx))
    (mRet (mLst (mCons (mVar 2) (mCons (mVar 3) (mNil)))))))) (mNx))
    (mRet (mLst (mCons (M.pure (.int 0)) (mCons (mBin dAdd (mBin dMul (mVar 1) (mVar 1)) (M.pure (.int 11))) (mNil)))))
noncomputable def fn__law_stream : List D → Rf := runF none 4 fb__law_stream
noncomputable def fb__law_take : M Fl :=
  mSeq (mIf (mTest (mBin dEq (mPeek 0 (M.pure (.int 0))) (M.pure (.int 0)))) (mSeq (mPutAt 0 (mBin dMod (mBin dAdd (mBin dMul (mPeek 0 (M.pure (.int 1))) (M.pure (.int 48271))) (M.pure (.int 12345))) (M.pure (.int 2147483647))) (M.pure (.int 1)))
    (mRet (mOf (mBin dMod (mBin dMod (mBin dMul (mPeek 0 (M.pure (.int 1))) (mPeek 0 (M.pure (.int 1)))) (M.pure (.int 2147483629))) (mVar 1))))) (mNx))
    (mSeq (mSet 2 (mOf (mBin dMod (mPeek 0 (M.pure (.int 0))) (mVar 1))))
    (mSeq (mPutAt 0 (mBin dDiv (mPeek 0 (M.pure (.int 0))) (mVar 1)) (M.pure (.int 0)))
    (mRet (mMove 2))))
noncomputable def fn__law_take : List D → Rf := runF (some 0) 3 fb__law_take
noncomputable def fb__law_fraction : M Fl :=
  mSeq (mSet 2 (mOf (mCall dAbs (mCons (mVar 0) (mNil)))))
    (mSeq (mSet 3 (mOf (mVar 1)))
    (mSeq (mWh (mTest (mBin dGt (mVar 3) (M.pure (.int 0)))) (mPar 2 3 (mCons (mVar 3) (mCons (mBin dMod (mVar 2) (mVar 3)) (mNil)))))
    (mRet (mOf (mTup (mCons (mBin dDiv (mVar 0) (mVar 2)) (mCons (mBin dDiv (mVar 1) (mVar 2)) (mNil))))))))
noncomputable def fn__law_fraction : List D → Rf := runF none 4 fb__law_fraction
end Std
namespace Std
open PySem L2 Dt
theorem common_loop : ∀ (n a b : Nat), b < n → mWhN (mTest (mBin dNe (mVar 1) (M.pure (.int 0)))) (mPar 0 1 (mCons (mVar 1) (mCons (mBin dMod (mVar 0) (mVar 1)) (mNil)))) n [.fz (.int a), .fz (.int b)] = .ok .nx [.fz (.int (Nat.gcd a b : Nat)), .fz (.int 0)]
  | 0, a, b, h => by omega
  | n + 1, a, 0, h => by
    unfold mWhN
    simp
  | n + 1, a, b + 1, h => by
    unfold mWhN
    have e : ((a : Int).fmod ((b + 1 : Nat) : Int)) = ((a % (b + 1) : Nat) : Int) := by
      rw [Int.fmod_eq_emod_of_nonneg _ (by omega)]; rfl
    have hb : ((b + 1 : Nat) : Int) ≠ 0 := by omega
    have ih := common_loop n (b + 1) (a % (b + 1)) (by have := Nat.mod_lt a (show 0 < b + 1 by omega); omega)
    have hz : decide (((b + 1 : Nat) : Int) = 0) = false := decide_eq_false hb
    simp only [bind_ap, test_ap, bin_ap, var_ap, List.getElem?_cons_succ, List.getElem?_cons_zero, ok_bnd, pure_ap, opt_some, dNe_i, hz, Bool.not_false, asBl_bl, par_ap, cons_ap, nil_ap, dMod_i, modOk_of hb, if_true, List.set_cons_zero, List.set_cons_succ, e]
    rw [ih]
    congr 4
    rw [Nat.gcd_comm a (b + 1), Nat.gcd_rec (b + 1) a, Nat.gcd_comm]
theorem common_ok (a b : Nat) : fn_common [.int a, .int b] = .ok (.int (Nat.gcd a b : Nat)) .ff .non := by
  have h := common_loop (b + 1) a b (by omega)
  have hw := mWh_eq (t := mTest (mBin dNe (mVar 1) (M.pure (.int 0)))) (b := mPar 0 1 (mCons (mVar 1) (mCons (mBin dMod (mVar 0) (mVar 1)) (mNil)))) (n := b + 1) (ρ := [.fz (.int a), .fz (.int b)]) (by rw [h]; intro z; cases z)
  rw [h] at hw
  unfold fn_common runF fb_common
  simp [hw]
theorem e_common {a b : Int} (h : 0 ≤ a ∧ 0 ≤ b) : fn_common [.int a, .int b] = .ok (.int ((Nat.gcd a.toNat b.toNat : Nat) : Int)) .ff .non := by
  have := common_ok a.toNat b.toNat
  rw [Int.toNat_of_nonneg h.1, Int.toNat_of_nonneg h.2] at this
  exact this
theorem num_div (a b : Int) : (Rat.divInt a b).num = b.sign * a / ((Nat.gcd a.natAbs b.natAbs : Nat) : Int) := by
  rw [Rat.num_divInt, Int.gcd, Nat.gcd_comm]
theorem den_div {a b : Int} (hb : b ≠ 0) : (Rat.divInt a b).den = b.natAbs / Nat.gcd a.natAbs b.natAbs := by
  rw [Rat.den_divInt, if_neg hb, Int.gcd, Nat.gcd_comm]
theorem frac_pair {a b : Int} (hb : b ≠ 0) (s : Int) (hs : s = if b < 0 then 0 - ((Nat.gcd a.natAbs b.natAbs : Nat) : Int) else ((Nat.gcd a.natAbs b.natAbs : Nat) : Int)) :
    D.tup [.int (a.fdiv s), .int (b.fdiv s)] = fq (Rat.divInt a b) := by
  have hg : 0 < Nat.gcd a.natAbs b.natAbs := Nat.gcd_pos_of_pos_right _ (by omega)
  have da : ((Nat.gcd a.natAbs b.natAbs : Nat) : Int) ∣ a := Int.ofNat_dvd_left.mpr (Nat.gcd_dvd_left _ _)
  have db : ((Nat.gcd a.natAbs b.natAbs : Nat) : Int) ∣ b := Int.ofNat_dvd_left.mpr (Nat.gcd_dvd_right _ _)
  unfold fq
  rw [num_div, den_div hb, Int.natCast_ediv]
  generalize hG : ((Nat.gcd a.natAbs b.natAbs : Nat) : Int) = g at *
  by_cases h : b < 0
  · rw [if_pos h] at hs
    have es : s = -g := by omega
    rw [es, Int.fdiv_eq_ediv_of_dvd (Int.neg_dvd.mpr da), Int.fdiv_eq_ediv_of_dvd (Int.neg_dvd.mpr db), Int.sign_eq_neg_one_of_neg h, Int.ediv_neg, Int.ediv_neg]
    have e1 : (-1 * a) / g = -(a / g) := by
      rw [show -1 * a = -a by omega, Int.neg_ediv_of_dvd da]
    have e2 : ((b.natAbs : Nat) : Int) / g = -(b / g) := by
      rw [show ((b.natAbs : Nat) : Int) = -b by omega, Int.neg_ediv_of_dvd db]
    rw [e1, e2]
  · rw [if_neg h] at hs
    rw [hs, Int.fdiv_eq_ediv_of_dvd da, Int.fdiv_eq_ediv_of_dvd db, Int.sign_eq_one_of_pos (by omega)]
    rw [show ((b.natAbs : Nat) : Int) = b by omega, show (1 : Int) * a = a by omega]
theorem e_fraction {a b : Int} (hb : b ≠ 0) : fn_fraction [.int a, .int b] = .ok (fq (Rat.divInt a b)) .ff .non := by
  have hg : 0 < Nat.gcd a.natAbs b.natAbs := Nat.gcd_pos_of_pos_right _ (by omega)
  unfold fn_fraction runF fb_fraction
  by_cases h : b < 0
  · rw [← frac_pair (a := a) hb (-((Nat.gcd a.natAbs b.natAbs : Nat) : Int)) (by rw [if_pos h]; omega)]
    have hd : ∀ x : Int, divOk x (-((Nat.gcd a.natAbs b.natAbs : Nat) : Int)) = true := fun x => divOk_of (by omega)
    simp [hb, common_ok, h, hd]
  · rw [← frac_pair (a := a) hb ((Nat.gcd a.natAbs b.natAbs : Nat) : Int) (by rw [if_neg h])]
    have hd : ∀ x : Int, divOk x ((Nat.gcd a.natAbs b.natAbs : Nat) : Int) = true := fun x => divOk_of (by omega)
    simp [hb, common_ok, h, hd]
def Sz (n : Nat) (q : Rat) : Prop := q.num.natAbs < 2 ^ n ∧ q.den < 2 ^ n
theorem den_pos (q : Rat) : 0 < q.den := Nat.pos_of_ne_zero q.den_nz
theorem sz_div {a b : Int} {n : Nat} (hb : b ≠ 0) (h1 : a.natAbs < 2 ^ n) (h2 : b.natAbs < 2 ^ n) : Sz n (Rat.divInt a b) := by
  constructor
  · rw [num_div]
    refine Nat.lt_of_le_of_lt ?_ h1
    have hg : 0 < Nat.gcd a.natAbs b.natAbs := Nat.gcd_pos_of_pos_right _ (by omega)
    rw [Int.natAbs_ediv_of_dvd]
    · refine Nat.le_trans (Nat.div_le_self _ _) ?_
      rw [Int.natAbs_mul, Int.natAbs_sign_of_ne_zero hb, Nat.one_mul]; exact Nat.le_refl _
    · exact Int.dvd_mul_of_dvd_right (Int.ofNat_dvd_left.mpr (Nat.gcd_dvd_left _ _))
  · rw [den_div hb]
    exact Nat.lt_of_le_of_lt (Nat.div_le_self _ _) h2
theorem mul_lt_two {a b n m : Nat} (ha : a < 2 ^ n) (hb : b < 2 ^ m) : a * b < 2 ^ (n + m) := by
  rw [Nat.pow_add]; exact Nat.mul_lt_mul'' ha hb
theorem add_div (p q : Rat) : Rat.divInt (p.num * (q.den : Int) + q.num * (p.den : Int)) ((p.den : Int) * (q.den : Int)) = p + q := by
  rw [Rat.add_def', ← Int.natCast_mul, Rat.divInt_ofNat]
theorem sub_div (p q : Rat) : Rat.divInt (p.num * (q.den : Int) - q.num * (p.den : Int)) ((p.den : Int) * (q.den : Int)) = p - q := by
  rw [Rat.sub_def', ← Int.natCast_mul, Rat.divInt_ofNat]
theorem sz_add {n m : Nat} {p q : Rat} (hp : Sz n p) (hq : Sz m q) : Sz (n + m + 1) (p + q) := by
  rw [← add_div]
  have d1 := den_pos p
  have d2 := den_pos q
  have h0 : ((p.den : Int) * (q.den : Int)) ≠ 0 := Int.mul_ne_zero (by omega) (by omega)
  have m1 := mul_lt_two hp.1 hq.2
  have m2 := mul_lt_two hq.1 hp.2
  have m3 := mul_lt_two hp.2 hq.2
  refine sz_div h0 ?_ ?_
  · refine Nat.lt_of_le_of_lt (Int.natAbs_add_le _ _) ?_
    rw [Int.natAbs_mul, Int.natAbs_mul, Int.natAbs_natCast, Int.natAbs_natCast, Nat.pow_succ]
    rw [Nat.add_comm m n] at m2
    omega
  · rw [Int.natAbs_mul, Int.natAbs_natCast, Int.natAbs_natCast, Nat.pow_succ]
    omega
theorem num_pos {q : Rat} (h : 0 < q) : 0 < q.num := by
  have := (Rat.lt_iff 0 q).mp h
  simpa using this
def sz (q : Rat) : Nat := max q.num.natAbs.log2 q.den.log2 + 1
theorem lt_log (n : Nat) : n < 2 ^ (n.log2 + 1) := Nat.lt_log2_self
theorem sz_Sz (q : Rat) : Sz (sz q) q := ⟨Nat.lt_of_lt_of_le (lt_log _) (Nat.pow_le_pow_right (by decide) (by unfold sz; omega)), Nat.lt_of_lt_of_le (lt_log _) (Nat.pow_le_pow_right (by decide) (by unfold sz; omega))⟩
theorem log_le {n k : Nat} (h : n < 2 ^ k) (hk : 1 ≤ k) : n.log2 + 1 ≤ k := by
  rcases Nat.eq_zero_or_pos n with z | z
  · subst z; simpa using hk
  · exact (Nat.log2_lt (by omega)).mpr h
theorem sz_le {n : Nat} {q : Rat} (h : Sz n q) : sz q ≤ n := by
  have hn : 1 ≤ n := by
    rcases Nat.eq_zero_or_pos n with z | z
    · subst z; have := h.2; have := den_pos q; omega
    · exact z
  have h1 := log_le h.1 hn
  have h2 := log_le h.2 hn
  unfold sz; omega
theorem sz_addL (p q : Rat) : sz (p + q) ≤ sz p + sz q + 1 := sz_le (sz_add (sz_Sz p) (sz_Sz q))
theorem sz_0 : sz 0 = 1 := rfl
theorem sz_1 : sz 1 = 1 := rfl
def SQ (p q : Rat) : Prop := sz p + sz q ≤ 80000000
theorem mok {p q : Int} {a b : Nat} (hp : p.natAbs < 2 ^ a) (hq : q.natAbs < 2 ^ b) (h : a + b ≤ 90000000) : mulOk p q = true := mulOk_of hp hq h
theorem nabs_lt {k n : Nat} (h : k < 2 ^ n) : ((k : Nat) : Int).natAbs < 2 ^ n := by rw [Int.natAbs_natCast]; exact h
theorem den_mul (p q : Rat) : ((p.den : Int) * (q.den : Int)) ≠ 0 := by
  have d1 := den_pos p
  have d2 := den_pos q
  exact Int.mul_ne_zero (by omega) (by omega)
section
variable {p q : Rat}
theorem mk1 (h : SQ p q) : mulOk p.num (q.den : Int) = true := mok (sz_Sz p).1 (nabs_lt (sz_Sz q).2) (by unfold SQ at h; omega)
theorem mk2 (h : SQ p q) : mulOk q.num (p.den : Int) = true := mok (sz_Sz q).1 (nabs_lt (sz_Sz p).2) (by unfold SQ at h; omega)
theorem mk3 (h : SQ p q) : mulOk (p.den : Int) (q.den : Int) = true := mok (nabs_lt (sz_Sz p).2) (nabs_lt (sz_Sz q).2) (by unfold SQ at h; omega)
theorem e_plus (h : SQ p q) : fn_plus [fq p, fq q] = .ok (fq (p + q)) .ff .non := by
  unfold fn_plus runF fb_plus
  simp [fq, mk1 h, mk2 h, mk3 h]
  rw [e_fraction (den_mul p q), add_div]
  rfl
theorem e_less (h : SQ p q) : fn_less [fq p, fq q] = .ok (fq (p - q)) .ff .non := by
  unfold fn_less runF fb_less
  simp [fq, mk1 h, mk2 h, mk3 h]
  rw [e_fraction (den_mul p q), sub_div]
  rfl
theorem e_is_less (h : SQ p q) : fn_is_less [fq p, fq q] = .ok (.bl (decide (p < q))) .ff .non := by
  unfold fn_is_less runF fb_is_less
  have e : decide (p < q) = decide (p.num * (q.den : Int) < q.num * (p.den : Int)) := decide_eq_decide.mpr (Rat.lt_iff p q)
  rw [e]
  simp [fq, mk1 h, mk2 h]
end
def sumQ (xs : List Rat) : Rat := xs.foldl (· + ·) 0
def tsz (xs : List Rat) : Nat := (xs.map fun x => sz x + 1).sum + 1
theorem sz_fold : ∀ (xs : List Rat) (a : Rat), sz (xs.foldl (· + ·) a) ≤ sz a + (xs.map fun x => sz x + 1).sum
  | [], a => by simp
  | x :: r, a => by
    have h1 := sz_fold r (a + x)
    have h2 := sz_addL a x
    simp only [List.foldl_cons, List.map_cons, List.sum_cons]
    omega
theorem sz_sumL (xs : List Rat) : sz (sumQ xs) ≤ tsz xs := by
  have := sz_fold xs 0
  rw [sz_0] at this
  unfold sumQ tsz; omega
theorem tsz_le {xs : List Rat} {n : Nat} (h : ∀ x ∈ xs, sz x ≤ n) : tsz xs ≤ xs.length * (n + 1) + 1 := by
  unfold tsz
  induction xs with
  | nil => simp
  | cons x r ih =>
    have h1 := ih fun y hy => h y (List.mem_cons_of_mem _ hy)
    have h2 := h x (by simp)
    simp only [List.map_cons, List.sum_cons, List.length_cons, Nat.succ_mul]
    omega
theorem total_loop : ∀ {xs : List Rat} {a : Rat} {s t : Slot}, sz a + (xs.map fun x => sz x + 1).sum ≤ 80000000 →
    ∃ t', mForL (gN 2) (mSet 1 (mCallN 2 none fn_plus (xV (mVar 1) (xV (mVar 2) (xNil))))) (xs.map fq) [s, .fz (fq a), t] = .ok .nx [s, .fz (fq (xs.foldl (· + ·) a)), t']
  | [], a, s, t, _ => ⟨t, rfl⟩
  | x :: r, a, s, t, h => by
    simp only [List.map_cons, List.sum_cons] at h
    have h1 := sz_addL a x
    obtain ⟨t', e⟩ := total_loop (xs := r) (a := a + x) (s := s) (t := .fz (fq x)) (by omega)
    refine ⟨t', ?_⟩
    rw [List.map_cons, forL_cons]
    simp -implicitDefEqProofs [e_plus (p := a) (q := x) (by unfold SQ; omega), e]
theorem e_total {xs : List Rat} (h : tsz xs ≤ 80000000) : fn_total [eL fq xs] = .ok (fq (sumQ xs)) .ff .non := by
  obtain ⟨t', e⟩ := total_loop (s := .fz (eL fq xs)) (t := .un) (xs := xs) (a := 0) (by rw [sz_0]; unfold tsz at h; omega)
  unfold fn_total runF fb_total
  unfold eL at e ⊢
  have e0 : fq 0 = .tup [.int 0, .int 1] := rfl
  rw [e0] at e
  simp -implicitDefEqProofs [e, sumQ]
theorem lawf_loop {u v : Slot} : ∀ (n a b : Nat), b < n → mWhN (mTest (mBin dGt (mVar 3) (M.pure (.int 0)))) (mPar 2 3 (mCons (mVar 3) (mCons (mBin dMod (mVar 2) (mVar 3)) (mNil)))) n [u, v, .fz (.int a), .fz (.int b)] = .ok .nx [u, v, .fz (.int (Nat.gcd a b : Nat)), .fz (.int 0)]
  | 0, a, b, h => by omega
  | n + 1, a, 0, h => by
    unfold mWhN
    simp
  | n + 1, a, b + 1, h => by
    unfold mWhN
    have e : ((a : Int).fmod ((b + 1 : Nat) : Int)) = ((a % (b + 1) : Nat) : Int) := by
      rw [Int.fmod_eq_emod_of_nonneg _ (by omega)]; rfl
    have hb : ((b + 1 : Nat) : Int) ≠ 0 := by omega
    have hb1 : (0 : Int) < ((b + 1 : Nat) : Int) := by omega
    have ih := lawf_loop (u := u) (v := v) n (b + 1) (a % (b + 1)) (by have := Nat.mod_lt a (show 0 < b + 1 by omega); omega)
    have hz : decide ((0 : Int) < ((b + 1 : Nat) : Int)) = true := decide_eq_true hb1
    simp only [bind_ap, test_ap, bin_ap, var_ap, List.getElem?_cons_succ, List.getElem?_cons_zero, ok_bnd, pure_ap, opt_some, dGt_i, hz, asBl_bl, par_ap, cons_ap, nil_ap, dMod_i, modOk_of hb, if_true, List.set_cons_zero, List.set_cons_succ, e]
    rw [ih]
    congr 6
    rw [Nat.gcd_comm a (b + 1), Nat.gcd_rec (b + 1) a, Nat.gcd_comm]
theorem e__law_fraction {a b : Int} (hb : 0 < b) : fn__law_fraction [.int a, .int b] = .ok (fq (Rat.divInt a b)) .ff .non := by
  have hg : 0 < Nat.gcd a.natAbs b.natAbs := Nat.gcd_pos_of_pos_right _ (by omega)
  have h := lawf_loop (u := .fz (.int a)) (v := .fz (.int b)) (b.natAbs + 1) a.natAbs b.natAbs (by omega)
  have hw := mWh_eq (t := mTest (mBin dGt (mVar 3) (M.pure (.int 0)))) (b := mPar 2 3 (mCons (mVar 3) (mCons (mBin dMod (mVar 2) (mVar 3)) (mNil)))) (n := b.natAbs + 1) (ρ := [.fz (.int a), .fz (.int b), .fz (.int (a.natAbs : Nat)), .fz (.int (b.natAbs : Nat))]) (by rw [h]; intro z; cases z)
  rw [h, show ((b.natAbs : Nat) : Int) = b by omega] at hw
  rw [← frac_pair (a := a) (by omega) ((Nat.gcd a.natAbs b.natAbs : Nat) : Int) (by rw [if_neg (by omega)])]
  have hd : ∀ x : Int, divOk x ((Nat.gcd a.natAbs b.natAbs : Nat) : Int) = true := fun x => divOk_of (by omega)
  unfold fn__law_fraction runF fb__law_fraction
  simp [hw, hd]
section
variable {p q : Rat}
end
structure Stm where
  c : Int
  m : Int
  c0 : 0 ≤ c
  m0 : 0 ≤ m
  m1 : m < 2 ^ 40
def eStm (s : Stm) : D := .lst [.int s.c, .int s.m]
instance : Inhabited Stm := ⟨⟨0, 0, by decide, by decide, by decide⟩⟩
def mixed (m : Int) : Int := (m * 48271 + 12345).fmod 2147483647
theorem mixed_b (m : Int) : 0 ≤ mixed m ∧ mixed m < 2147483647 := by
  unfold mixed
  rw [Int.fmod_eq_emod_of_nonneg _ (by decide)]
  omega
def t__law_take (s : Stm) (most : Int) : Int × Stm :=
  if h : s.c = 0 then (((mixed s.m * mixed s.m).fmod 2147483629).fmod most, ⟨0, mixed s.m, by decide, (mixed_b s.m).1, by have := (mixed_b s.m).2; omega⟩)
  else if h2 : 0 < most then (s.c.fmod most, ⟨s.c.fdiv most, s.m, by rw [Int.fdiv_eq_ediv_of_nonneg _ (by omega)]; exact Int.ediv_nonneg s.c0 (by omega), s.m0, s.m1⟩)
  else (0, s)
theorem e__law_take {s : Stm} {most : Int} (h0 : 0 < most) : fn__law_take [eStm s, .int most] = .ok (.int (t__law_take s most).1) .ff (eStm (t__law_take s most).2) := by
  obtain ⟨c, m, hc, hm0, hm1⟩ := s
  have hn : most ≠ 0 := by omega
  unfold fn__law_take runF fb__law_take t__law_take eStm
  by_cases z : c = 0
  · subst z
    have k1 : mulOk m 48271 = true := mok (a := 40) (b := 20) (by omega) (by decide) (by decide)
    have k2 : mulOk (mixed m) (mixed m) = true := by
      have := mixed_b m
      exact mok (a := 40) (b := 40) (by omega) (by omega) (by decide)
    have k3 := k2
    unfold mixed at k3
    simp [k1, k3, hn, mixed]
  · have k1 : divOk c most = true := divOk_of hn
    simp [z, k1, hn, h0]
theorem take_b {s : Stm} {most : Int} (h0 : 0 < most) : 0 ≤ (t__law_take s most).1 ∧ (t__law_take s most).1 < most := by
  have hn : most ≠ 0 := by omega
  unfold t__law_take
  split
  · rw [Int.fmod_eq_emod_of_nonneg _ (show (0 : Int) ≤ most by omega)]; exact ⟨Int.emod_nonneg _ hn, Int.emod_lt_of_pos _ h0⟩
  · dsimp only
    rw [Int.fmod_eq_emod_of_nonneg _ (show (0 : Int) ≤ most by omega)]; exact ⟨Int.emod_nonneg _ hn, Int.emod_lt_of_pos _ h0⟩
theorem sq_b {k : Int} (h0 : 0 ≤ k) (h1 : k < 1000) : 0 ≤ k * k ∧ k * k ≤ 1000000 :=
  ⟨Int.mul_nonneg h0 h0, by
    have : k * k ≤ 1000 * 1000 := Int.mul_le_mul (by omega) (by omega) h0 (by omega)
    omega⟩
def t__law_stream (ns : List Int) (k : Int) : Stm :=
  if h : 0 ≤ k ∧ k < 1000 then
    (if k < ns.length then ⟨if ix ns k < 1000000000000000000 then 0 else ix ns k, (ix ns k).fmod 2147483629 + k * k + 1, by split <;> omega, by
        rw [Int.fmod_eq_emod_of_nonneg _ (by decide)]
        have := sq_b h.1 h.2
        omega, by
        rw [Int.fmod_eq_emod_of_nonneg _ (by decide)]
        have := sq_b h.1 h.2
        omega⟩
    else ⟨0, k * k + 11, by decide, by have := sq_b h.1 h.2; omega, by have := sq_b h.1 h.2; omega⟩)
  else default
theorem e__law_stream {ns : List Int} {k : Int} (h : 0 ≤ k ∧ k < 1000) : fn__law_stream [.scr ns, .int k] = .ok (eStm (t__law_stream ns k)) .tt .non := by
  have k1 : mulOk k k = true := mok (a := 20) (b := 20) (by omega) (by omega) (by decide)
  unfold fn__law_stream runF fb__law_stream t__law_stream
  rw [dif_pos h]
  by_cases c : k < ns.length
  · have e : L2.atI ns k = some (ix ns k) := by
      have := at_of (F := (id : Int → Int)) (xs := ns) (i := k) ⟨by omega, c⟩
      rw [List.map_id] at this
      exact this
    have hp : powOk 10 18 = true := by decide
    rw [if_pos c]
    by_cases hx : ix ns k < 1000000000000000000
    · simp [c, e, k1, hp, hx, eStm]
    · simp [c, e, k1, hp, hx, eStm]
  · rw [if_neg c]
    simp [c, k1, eStm]
end Std
namespace Net
open PySem PySem.Spec PyProof.Rows L2 Dt
noncomputable def fb_ask : M Fl :=
  mSeq (mIf (mNot (mTest (mVar 0))) (M.bind (mVar 1) fun _ => M.raise "NoNet") mNx)
    mNx
noncomputable def fn_ask : List D → Rf := runF none 2 fb_ask
noncomputable def t_ask (v_good : Bool) (v_words : Str) : Unit :=
  cond (!v_good) default ()
def s_ask (v_good : Bool) (v_words : Str) : Prop :=
  ((!v_good) = true → False)
theorem e_ask {v_good : Bool} {v_words : Str} (h : s_ask v_good v_words) : fn_ask [D.bl v_good, D.str v_words] = .ok (eN (t_ask v_good v_words)) .ff .non := by
  refine runE (fb := fb_ask) (x := t_ask v_good v_words) ?_
  show JE (fb_ask [.fz (D.bl v_good), .fz (D.str v_words)]) _
  delta fb_ask t_ask
  delta s_ask at h
  exact sqIf (nt (tst (vf 0 rfl))) (fun hc => bdh (h hc) (fun h => h.elim)) (fun _ => sq rfl (⟨_, rfl⟩))
noncomputable def fb_ask_fraction : M Fl :=
  mSeq (mAsg (gT 2 (gsC (gN 2) (gsC (gN 3) gsN))) (mVar 0))
    (mSeq (mDrop (mFz (mCallN 2 none fn_ask (xV (mAndV (mChain dLe dLe (M.pure (.int 0)) (mVar 2) (M.pure (.int 1000))) (mAndV (mChain dLe dLe (M.pure (.int 1)) (mVar 3) (M.pure (.int 1000))) (mBin dEq (mFz (mCallN 2 none Std.fn_common (xV (mVar 2) (xV (mVar 3) xNil)))) (M.pure (.int 1))))) (xV (M.pure (.str "fractions in least terms")) xNil)))))
    (mSeq (mDrop (mFz (mCallN 2 none fn_ask (xV (mOrV (mBin dGt (mVar 2) (M.pure (.int 0))) (mNotV (mVar 1))) (xV (M.pure (.str "above nought")) xNil)))))
    mNx))
noncomputable def fn_ask_fraction : List D → Rf := runF none 4 fb_ask_fraction
noncomputable def t_ask_fraction (v_one : Rat) (v_above_nought : Bool) : Unit :=
  bd v_one (fun (z1 : Rat) => ())
def s_ask_fraction (v_one : Rat) (v_above_nought : Bool) : Prop :=
  bd v_one (fun (z1 : Rat) => ((((decide ((0 : Int) ≤ z1.num)) && (decide (z1.num ≤ (1000 : Int)))) = true → (((decide ((1 : Int) ≤ (z1.den : Int))) && (decide ((z1.den : Int) ≤ (1000 : Int)))) = true → (0 ≤ z1.num ∧ 0 ≤ (z1.den : Int)))) ∧ (s_ask ((((decide ((0 : Int) ≤ z1.num)) && (decide (z1.num ≤ (1000 : Int)))) && (((decide ((1 : Int) ≤ (z1.den : Int))) && (decide ((z1.den : Int) ≤ (1000 : Int)))) && (decide (((Nat.gcd z1.num.toNat ((z1.den : Int)).toNat : Nat) : Int) = (1 : Int)))))) (("fractions in least terms" : Str))) ∧ ((s_ask (((decide ((0 : Int) < z1.num)) || (!v_above_nought))) (("above nought" : Str))))))
theorem e_ask_fraction {v_one : Rat} {v_above_nought : Bool} (h : s_ask_fraction v_one v_above_nought) : fn_ask_fraction [fq v_one, D.bl v_above_nought] = .ok (eN (t_ask_fraction v_one v_above_nought)) .ff .non := by
  refine runE (fb := fb_ask_fraction) (x := t_ask_fraction v_one v_above_nought) ?_
  show JE (fb_ask_fraction [zQ v_one, .fz (D.bl v_above_nought), .un, .un]) _
  delta fb_ask_fraction t_ask_fraction
  delta s_ask_fraction at h
  exact sqB (ctx := fun (z1 : Rat) => [zQ v_one, .fz (D.bl v_above_nought), zI z1.num, .fz (D.int ((z1.den : Int)))]) (sAsg (vf 0 rfl) rfl) h (fun z1 h => sq (ρ1 := [zQ v_one, .fz (D.bl v_above_nought), zI z1.num, .fz (D.int ((z1.den : Int)))]) (sDrop (mfz (cN (x1 (anV (chn rfl (vf 2 rfl) rfl (fun hc2 => rfl) (fun _ => rfl)) (fun hc5 => anV (chn rfl (vf 3 rfl) rfl (fun hc3 => rfl) (fun _ => rfl)) (fun hc4 => b2 (mfz (cN (x1 (vf 2 rfl) (x1 (vf 3 rfl) x0)) rfl rfl (Std.e_common (a := z1.num) (b := (z1.den : Int)) ((h.1 hc5) hc4) :) rfl)) rfl dEq_i))) (x1 rfl x0)) rfl rfl (e_ask (v_good := (((decide ((0 : Int) ≤ z1.num)) && (decide (z1.num ≤ (1000 : Int)))) && (((decide ((1 : Int) ≤ (z1.den : Int))) && (decide ((z1.den : Int) ≤ (1000 : Int)))) && (decide (((Nat.gcd z1.num.toNat ((z1.den : Int)).toNat : Nat) : Int) = (1 : Int)))))) (v_words := ("fractions in least terms" : Str)) h.2.1 :) rfl))) (bdh h.2.2 (fun h => sq (ρ1 := [zQ v_one, .fz (D.bl v_above_nought), zI z1.num, .fz (D.int ((z1.den : Int)))]) (sDrop (mfz (cN (x1 (orV (b2 (vf 2 rfl) rfl rfl) (fun hc6 => ntV (vf 1 rfl))) (x1 rfl x0)) rfl rfl (e_ask (v_good := ((decide ((0 : Int) < z1.num)) || (!v_above_nought))) (v_words := ("above nought" : Str)) h :) rfl))) (⟨_, rfl⟩))))
noncomputable def fb_ask_line : M Fl :=
  mSeq (mAsg (gT 4 (gsC (gN 2) (gsC (gN 3) (gsC (gN 4) (gsC (gN 5) gsN))))) (mVar 0))
    (mSeq (mDrop (mFz (mCallN 2 none fn_ask (xV (mChain dLe dLe (M.pure (.int 1)) (mCall dLen (mCons (mVar 2) mNil)) (M.pure (.int 6))) (xV (M.pure (.str "one to six speeds")) xNil)))))
    (mSeq (mFor (mIter (mVar 2)) (gN 1) (mSeq (mDrop (mFz (mCallN 2 none fn_ask_fraction (xV (mVar 1) (xV (M.pure (.bl true)) xNil)))))
    (mSeq (mKill [1]) mNx)))
    (mSeq (mFor (mZip (mCons (mFz (mSl (mVar 2) (mPart none) (mPart (some (mUn dNeg (M.pure (.int 1))))))) (mCons (mFz (mSl (mVar 2) (mPart (some (M.pure (.int 1)))) (mPart none))) mNil))) (gT 2 (gsC (gN 1) (gsC (gN 6) gsN))) (mSeq (mDrop (mFz (mCallN 2 none fn_ask (xV (mNotV (mFz (mCallN 2 none Std.fn_is_less (xV (mVar 6) (xV (mVar 1) xNil))))) (xV (M.pure (.str "speeds never fall")) xNil)))))
    (mSeq (mKill [1, 6]) mNx)))
    (mSeq (mDrop (mFz (mCallN 2 none fn_ask_fraction (xV (mVar 3) (xV (M.pure (.bl false)) xNil)))))
    (mSeq (mDrop (mFz (mCallN 2 none fn_ask (xV (mChain dLe dLe (M.pure (.int 0)) (mVar 4) (M.pure (.int 9))) (xV (M.pure (.str "a room is 0 to 9")) xNil)))))
    (mSeq (mIf (mTest (mBin dEq (mVar 4) (M.pure (.int 0)))) (mSeq (mDrop (mFz (mCallN 2 none fn_ask (xV (mBin dEq (mVar 5) (M.pure (.str ""))) (xV (M.pure (.str "no rule without a room")) xNil)))))
    mNx) (mSeq (mDrop (mFz (mCallN 2 none fn_ask (xV (mBin (dIn false) (mVar 5) (M.pure (.tup [(.str "stay"), (.str "lose"), (.str "skip")]))) (xV (M.pure (.str "a rule is stay, lose or skip")) xNil)))))
    mNx))
    mNx))))))
noncomputable def fn_ask_line : List D → Rf := runF none 7 fb_ask_line
noncomputable def t_ask_line (v_line : Line) : Unit :=
  bd v_line (fun (z1 : Line) => ())
def s_ask_line (v_line : Line) : Prop :=
  bd v_line (fun (z1 : Line) => ((s_ask (((decide ((1 : Int) ≤ (z1.1.length : Int))) && (decide ((z1.1.length : Int) ≤ (6 : Int))))) (("one to six speeds" : Str))) ∧ (((sfl (fun (z3 : Unit) (xv4 : Rat) => ()) (fun (z3 : Unit) (xv4 : Rat) => (s_ask_fraction xv4 true)) z1.1 ()) ∧ (((sfl (fun (z5 : Unit) (xv6 : (Rat × Rat)) => ()) (fun (z5 : Unit) (xv6 : (Rat × Rat)) => ((Std.SQ xv6.2 xv6.1) ∧ (s_ask ((!(decide (xv6.2 < xv6.1)))) (("speeds never fall" : Str))))) (((cut z1.1 none (some ((-(1 : Int)))))).zip ((cut z1.1 (some ((1 : Int))) none))) ()) ∧ (((s_ask_fraction z1.2.1 false) ∧ (((s_ask (((decide ((0 : Int) ≤ z1.2.2.1)) && (decide (z1.2.2.1 ≤ (9 : Int))))) (("a room is 0 to 9" : Str))) ∧ ((((decide (z1.2.2.1 = (0 : Int))) = true → (s_ask ((decide (z1.2.2.2 = ("" : Str)))) (("no rule without a room" : Str)))) ∧ ((decide (z1.2.2.1 = (0 : Int))) = false → (s_ask ((decide (z1.2.2.2 ∈ [("stay" : Str), ("lose" : Str), ("skip" : Str)]))) (("a rule is stay, lose or skip" : Str))))))))))))))))
theorem e_ask_line {v_line : Line} (h : s_ask_line v_line) : fn_ask_line [eLine v_line] = .ok (eN (t_ask_line v_line)) .ff .non := by
  refine runE (fb := fb_ask_line) (x := t_ask_line v_line) ?_
  show JE (fb_ask_line [.fz (eLine v_line), .un, .un, .un, .un, .un, .un]) _
  delta fb_ask_line t_ask_line
  delta s_ask_line at h
  exact sqB (ctx := fun (z1 : Line) => [.fz (eLine v_line), .un, zL z1.1, zQ z1.2.1, zI z1.2.2.1, .fz (D.str z1.2.2.2), .un]) (sAsg (vf 0 rfl) rfl) h (fun z1 h => sq (ρ1 := [.fz (eLine v_line), .un, zL z1.1, zQ z1.2.1, zI z1.2.2.1, .fz (D.str z1.2.2.2), .un]) (sDrop (mfz (cN (x1 (chn rfl (c1 (a1 (vf 2 rfl) a0) (o_lenL (F := fq))) rfl (fun hc2 => rfl) (fun _ => rfl)) (x1 rfl x0)) rfl rfl (e_ask (v_good := ((decide ((1 : Int) ≤ (z1.1.length : Int))) && (decide ((z1.1.length : Int) ≤ (6 : Int))))) (v_words := ("one to six speeds" : Str)) h.1 :) rfl))) (bdh h.2 (fun h => sq (ρ1 := [.fz (eLine v_line), .un, zL z1.1, zQ z1.2.1, zI z1.2.2.1, .fz (D.str z1.2.2.2), .un]) (forN (F := fq) (ctx := fun (z3 : Unit) => [.fz (eLine v_line), .un, zL z1.1, zQ z1.2.1, zI z1.2.2.1, .fz (D.str z1.2.2.2), .un]) (i_L (F := fq) (vf 2 rfl)) h.1 (fun z3 xv4 h => ⟨_, rfl, sq (ρ1 := [.fz (eLine v_line), zQ xv4, zL z1.1, zQ z1.2.1, zI z1.2.2.1, .fz (D.str z1.2.2.2), .un]) (sDrop (mfz (cN (x1 (vf 1 rfl) (x1 rfl x0)) rfl rfl (e_ask_fraction (v_one := xv4) (v_above_nought := true) h :) rfl))) (sq (sKill (show _ = [.fz (eLine v_line), .un, zL z1.1, zQ z1.2.1, zI z1.2.2.1, .fz (D.str z1.2.2.2), .un] from rfl)) rfl)⟩)) (bdh h.2 (fun h => sq (ρ1 := [.fz (eLine v_line), .un, zL z1.1, zQ z1.2.1, zI z1.2.2.1, .fz (D.str z1.2.2.2), .un]) (forN (F := (eT2 fq fq)) (ctx := fun (z5 : Unit) => [.fz (eLine v_line), .un, zL z1.1, zQ z1.2.1, zI z1.2.2.1, .fz (D.str z1.2.2.2), .un]) (i_zip (F := fq) (G := fq) (a1 (mfz (slL (F := fq) (vf 2 rfl) pt0 (pt1 (u1 rfl rfl)))) (a1 (mfz (slL (F := fq) (vf 2 rfl) (pt1 rfl) pt0)) a0))) h.1 (fun z5 xv6 h => ⟨_, rfl, sq (ρ1 := [.fz (eLine v_line), zQ xv6.1, zL z1.1, zQ z1.2.1, zI z1.2.2.1, .fz (D.str z1.2.2.2), zQ xv6.2]) (sDrop (mfz (cN (x1 (ntV (mfz (cN (x1 (vf 6 rfl) (x1 (vf 1 rfl) x0)) rfl rfl (Std.e_is_less (p := xv6.2) (q := xv6.1) h.1 :) rfl))) (x1 rfl x0)) rfl rfl (e_ask (v_good := (!(decide (xv6.2 < xv6.1)))) (v_words := ("speeds never fall" : Str)) h.2 :) rfl))) (sq (sKill (show _ = [.fz (eLine v_line), .un, zL z1.1, zQ z1.2.1, zI z1.2.2.1, .fz (D.str z1.2.2.2), .un] from rfl)) rfl)⟩)) (bdh h.2 (fun h => sq (ρ1 := [.fz (eLine v_line), .un, zL z1.1, zQ z1.2.1, zI z1.2.2.1, .fz (D.str z1.2.2.2), .un]) (sDrop (mfz (cN (x1 (vf 3 rfl) (x1 rfl x0)) rfl rfl (e_ask_fraction (v_one := z1.2.1) (v_above_nought := false) h.1 :) rfl))) (bdh h.2 (fun h => sq (ρ1 := [.fz (eLine v_line), .un, zL z1.1, zQ z1.2.1, zI z1.2.2.1, .fz (D.str z1.2.2.2), .un]) (sDrop (mfz (cN (x1 (chn rfl (vf 4 rfl) rfl (fun hc7 => rfl) (fun _ => rfl)) (x1 rfl x0)) rfl rfl (e_ask (v_good := ((decide ((0 : Int) ≤ z1.2.2.1)) && (decide (z1.2.2.1 ≤ (9 : Int))))) (v_words := ("a room is 0 to 9" : Str)) h.1 :) rfl))) (bdh h.2 (fun h => sq (ρ1 := [.fz (eLine v_line), .un, zL z1.1, zQ z1.2.1, zI z1.2.2.1, .fz (D.str z1.2.2.2), .un]) (ifJ (ctx := fun (z8 : Unit) => [.fz (eLine v_line), .un, zL z1.1, zQ z1.2.1, zI z1.2.2.1, .fz (D.str z1.2.2.2), .un]) (v := ()) (w := ()) (tst (b2 (vf 4 rfl) rfl dEq_i)) (fun hc => (bdh (h.1 hc) (fun h => jnE (ctx := fun (z8 : Unit) => [.fz (eLine v_line), .un, zL z1.1, zQ z1.2.1, zI z1.2.2.1, .fz (D.str z1.2.2.2), .un]) (s := ()) (sq (ρ1 := [.fz (eLine v_line), .un, zL z1.1, zQ z1.2.1, zI z1.2.2.1, .fz (D.str z1.2.2.2), .un]) (sDrop (mfz (cN (x1 (b2 (vf 5 rfl) rfl dEq_s) (x1 rfl x0)) rfl rfl (e_ask (v_good := (decide (z1.2.2.2 = ("" : Str)))) (v_words := ("no rule without a room" : Str)) h :) rfl))) rfl)))) (fun hc => (bdh (h.2 hc) (fun h => jnE (ctx := fun (z8 : Unit) => [.fz (eLine v_line), .un, zL z1.1, zQ z1.2.1, zI z1.2.2.1, .fz (D.str z1.2.2.2), .un]) (s := ()) (sq (ρ1 := [.fz (eLine v_line), .un, zL z1.1, zQ z1.2.1, zI z1.2.2.1, .fz (D.str z1.2.2.2), .un]) (sDrop (mfz (cN (x1 (b2 (vf 5 rfl) rfl (o_inSV (x := z1.2.2.2) (ys := [("stay" : Str), ("lose" : Str), ("skip" : Str)]))) (x1 rfl x0)) rfl rfl (e_ask (v_good := (decide (z1.2.2.2 ∈ [("stay" : Str), ("lose" : Str), ("skip" : Str)]))) (v_words := ("a rule is stay, lose or skip" : Str)) h :) rfl))) rfl))))) (⟨_, rfl⟩))))))))))))
noncomputable def fb_ask_stand : M Fl :=
  mSeq (mAsg (gT 3 (gsC (gN 4) (gsC (gN 5) (gsC (gN 6) gsN)))) (mVar 0))
    (mSeq (mDrop (mFz (mCallN 2 none fn_ask (xV (mChain dLe dLt (M.pure (.int 0)) (mVar 4) (mVar 1)) (xV (M.pure (.str "a line that's there")) xNil)))))
    (mSeq (mDrop (mFz (mCallN 2 none fn_ask_fraction (xV (mVar 5) (xV (M.pure (.bl true)) xNil)))))
    (mSeq (mSet 3 (mOf (mUn dNeg (M.pure (.int 1)))))
    (mSeq (mFor (mIter (mVar 6)) (gT 2 (gsC (gN 7) (gsC (gN 8) gsN))) (mSeq (mDrop (mFz (mCallN 2 none fn_ask (xV (mChain dLt dLt (mVar 3) (mVar 7) (mVar 2)) (xV (M.pure (.str "ways to stands, rising")) xNil)))))
    (mSeq (mDrop (mFz (mCallN 2 none fn_ask_fraction (xV (mVar 8) (xV (M.pure (.bl true)) xNil)))))
    (mSeq (mSet 3 (mOf (mVar 7)))
    (mSeq (mKill [7, 8]) mNx)))))
    (mSeq (mDrop (mFz (mCallN 2 none fn_ask (xV (mNotV (mFz (mCallN 2 none Std.fn_is_less (xV (M.pure (.tup [(.int 1), (.int 1)])) (xV (mFz (mCallN 1 none Std.fn_total (xV (mFz (mLc [7, 8] (mIter (mVar 6)) (gT 2 (gsC (gN 7) (gsC (gN 8) gsN))) (M.pure true) (mVar 8))) xNil))) xNil))))) (xV (M.pure (.str "shares come to one at most")) xNil)))))
    mNx)))))
noncomputable def fn_ask_stand : List D → Rf := runF none 9 fb_ask_stand
noncomputable def t_ask_stand (v_stand : Stand) (v_lines : Int) (v_many : Int) : Unit :=
  bd v_stand (fun (z1 : Stand) => bd (-(1 : Int)) (fun (v_last_3 : Int) => bd (z1.2.2.foldl (fun (z4 : Int) (xv5 : Way) => bd xv5.1 (fun (v_last_7 : Int) => v_last_7)) v_last_3) (fun (z8 : Int) => ())))
def s_ask_stand (v_stand : Stand) (v_lines : Int) (v_many : Int) : Prop :=
  bd v_stand (fun (z1 : Stand) => ((s_ask (((decide ((0 : Int) ≤ z1.1)) && (decide (z1.1 < v_lines)))) (("a line that's there" : Str))) ∧ (((s_ask_fraction z1.2.1 true) ∧ (bd (-(1 : Int)) (fun (v_last_3 : Int) => ((sfl (fun (z4 : Int) (xv5 : Way) => bd xv5.1 (fun (v_last_7 : Int) => v_last_7)) (fun (z4 : Int) (xv5 : Way) => ((s_ask (((decide (z4 < xv5.1)) && (decide (xv5.1 < v_many)))) (("ways to stands, rising" : Str))) ∧ ((s_ask_fraction xv5.2 true)))) z1.2.2 v_last_3) ∧ (bd (z1.2.2.foldl (fun (z4 : Int) (xv5 : Way) => bd xv5.1 (fun (v_last_7 : Int) => v_last_7)) v_last_3) (fun (z8 : Int) => ((z1.2.2.length ≤ 10000) ∧ (Std.tsz ((z1.2.2.map (fun (xv9 : Way) => xv9.2))) ≤ 80000000) ∧ (Std.SQ ((1 : Rat)) ((Std.sumQ ((z1.2.2.map (fun (xv9 : Way) => xv9.2)))))) ∧ (s_ask ((!(decide ((1 : Rat) < (Std.sumQ ((z1.2.2.map (fun (xv9 : Way) => xv9.2)))))))) (("shares come to one at most" : Str)))))))))))))
theorem e_ask_stand {v_stand : Stand} {v_lines : Int} {v_many : Int} (h : s_ask_stand v_stand v_lines v_many) : fn_ask_stand [eStand v_stand, D.int v_lines, D.int v_many] = .ok (eN (t_ask_stand v_stand v_lines v_many)) .ff .non := by
  refine runE (fb := fb_ask_stand) (x := t_ask_stand v_stand v_lines v_many) ?_
  show JE (fb_ask_stand [.fz (eStand v_stand), zI v_lines, zI v_many, .un, .un, .un, .un, .un, .un]) _
  delta fb_ask_stand t_ask_stand
  delta s_ask_stand at h
  exact sqB (ctx := fun (z1 : Stand) => [.fz (eStand v_stand), zI v_lines, zI v_many, .un, zI z1.1, zQ z1.2.1, .fz ((eL eWay) z1.2.2), .un, .un]) (sAsg (vf 0 rfl) rfl) h (fun z1 h => sq (ρ1 := [.fz (eStand v_stand), zI v_lines, zI v_many, .un, zI z1.1, zQ z1.2.1, .fz ((eL eWay) z1.2.2), .un, .un]) (sDrop (mfz (cN (x1 (chn rfl (vf 4 rfl) rfl (fun hc2 => vf 1 rfl) (fun _ => rfl)) (x1 rfl x0)) rfl rfl (e_ask (v_good := ((decide ((0 : Int) ≤ z1.1)) && (decide (z1.1 < v_lines)))) (v_words := ("a line that's there" : Str)) h.1 :) rfl))) (bdh h.2 (fun h => sq (ρ1 := [.fz (eStand v_stand), zI v_lines, zI v_many, .un, zI z1.1, zQ z1.2.1, .fz ((eL eWay) z1.2.2), .un, .un]) (sDrop (mfz (cN (x1 (vf 5 rfl) (x1 rfl x0)) rfl rfl (e_ask_fraction (v_one := z1.2.1) (v_above_nought := true) h.1 :) rfl))) (bdh h.2 (fun h => sqB (ctx := fun (v_last_3 : Int) => [.fz (eStand v_stand), zI v_lines, zI v_many, zI v_last_3, zI z1.1, zQ z1.2.1, .fz ((eL eWay) z1.2.2), .un, .un]) (sSet (mof (u1 rfl rfl)) rfl) h (fun v_last_3 h => sqB (ctx := fun (z8 : Int) => [.fz (eStand v_stand), zI v_lines, zI v_many, zI z8, zI z1.1, zQ z1.2.1, .fz ((eL eWay) z1.2.2), .un, .un]) (forN (F := eWay) (ctx := fun (z4 : Int) => [.fz (eStand v_stand), zI v_lines, zI v_many, zI z4, zI z1.1, zQ z1.2.1, .fz ((eL eWay) z1.2.2), .un, .un]) (i_L (F := eWay) (vf 6 rfl)) h.1 (fun z4 xv5 h => ⟨_, rfl, sq (ρ1 := [.fz (eStand v_stand), zI v_lines, zI v_many, zI z4, zI z1.1, zQ z1.2.1, .fz ((eL eWay) z1.2.2), zI xv5.1, zQ xv5.2]) (sDrop (mfz (cN (x1 (chn (vf 3 rfl) (vf 7 rfl) rfl (fun hc6 => vf 2 rfl) (fun _ => rfl)) (x1 rfl x0)) rfl rfl (e_ask (v_good := ((decide (z4 < xv5.1)) && (decide (xv5.1 < v_many)))) (v_words := ("ways to stands, rising" : Str)) h.1 :) rfl))) (bdh h.2 (fun h => sq (ρ1 := [.fz (eStand v_stand), zI v_lines, zI v_many, zI z4, zI z1.1, zQ z1.2.1, .fz ((eL eWay) z1.2.2), zI xv5.1, zQ xv5.2]) (sDrop (mfz (cN (x1 (vf 8 rfl) (x1 rfl x0)) rfl rfl (e_ask_fraction (v_one := xv5.2) (v_above_nought := true) h :) rfl))) (sqB (ctx := fun (v_last_7 : Int) => [.fz (eStand v_stand), zI v_lines, zI v_many, zI v_last_7, zI z1.1, zQ z1.2.1, .fz ((eL eWay) z1.2.2), zI xv5.1, zQ xv5.2]) (S := fun _ => True) (sSet (mof (vf 7 rfl)) rfl) trivial (fun v_last_7 _ => sq (sKill (show _ = [.fz (eStand v_stand), zI v_lines, zI v_many, zI v_last_7, zI z1.1, zQ z1.2.1, .fz ((eL eWay) z1.2.2), .un, .un] from rfl)) rfl))))⟩)) h.2 (fun z8 h => sq (ρ1 := [.fz (eStand v_stand), zI v_lines, zI v_many, zI z8, zI z1.1, zQ z1.2.1, .fz ((eL eWay) z1.2.2), .un, .un]) (sDrop (mfz (cN (x1 (ntV (mfz (cN (x1 rfl (x1 (mfz (cN (x1 (mfz (lcM (F := eWay) (G := fq) (φ := fun (xv9 : Way) => xv9.2) (ρ1 := [.fz (eStand v_stand), zI v_lines, zI v_many, zI z8, zI z1.1, zQ z1.2.1, .fz ((eL eWay) z1.2.2), .un, .un]) (i_L (F := eWay) (vf 6 rfl)) rfl (fun xv9 hx10 => ⟨_, rfl, rfl, _, vf 8 rfl, rfl⟩) h.1 rfl)) x0) rfl rfl (Std.e_total (xs := (z1.2.2.map (fun (xv9 : Way) => xv9.2))) h.2.1 :) rfl)) x0)) rfl rfl (Std.e_is_less (p := (1 : Rat)) (q := (Std.sumQ ((z1.2.2.map (fun (xv9 : Way) => xv9.2))))) h.2.2.1 :) rfl))) (x1 rfl x0)) rfl rfl (e_ask (v_good := (!(decide ((1 : Rat) < (Std.sumQ ((z1.2.2.map (fun (xv9 : Way) => xv9.2)))))))) (v_words := ("shares come to one at most" : Str)) h.2.2.2 :) rfl))) (⟨_, rfl⟩))))))))
noncomputable def fb_ask_rates : M Fl :=
  mSeq (mFor (mIter (mVar 1)) (gN 2) (mSeq (mDrop (mFz (mCallN 2 none fn_ask_fraction (xV (mVar 2) (xV (M.pure (.bl false)) xNil)))))
    (mSeq (mKill [2]) mNx)))
    (mSeq (mDrop (mFz (mCallN 2 none fn_ask (xV (mBin dNe (mFz (mLc [2] (mIter (mVar 1)) (gN 2) (mTest (mBin dNe (mVar 2) (M.pure (.tup [(.int 0), (.int 1)])))) (mVar 2))) (mFz (mLst mNil))) (xV (M.pure (.str "somebody comes")) xNil)))))
    (mSeq (mSet 3 (mLc [4] (mIter (mVar 0)) (gN 4) (M.pure true) (mBin dIx (mVar 4) (M.pure (.int 2)))))
    (mSeq (mFrz 3)
    (mSeq (mIf (mTest (mBin dEq (mCall dMaxL (mCons (mVar 3) mNil)) (M.pure (.int 0)))) (mSeq (mDrop (mFz (mCallN 2 none fn_ask (xV (mBin dEq (mFz (mLc [4] (mIter (mVar 0)) (gN 4) (mTest (mBin dNe (mBin dIx (mVar 4) (M.pure (.int 1))) (M.pure (.tup [(.int 0), (.int 1)])))) (mVar 4))) (mFz (mLst mNil))) (xV (M.pure (.str "hands that are no more behind the last speed")) xNil)))))
    mNx) (mSeq (mDrop (mFz (mCallN 2 none fn_ask (xV (mBin dGt (mCall dMinL (mCons (mVar 3) mNil)) (M.pure (.int 0))) (xV (M.pure (.str "each line has a room, or none")) xNil)))))
    mNx))
    mNx))))
noncomputable def fn_ask_rates : List D → Rf := runF none 5 fb_ask_rates
noncomputable def t_ask_rates (v_lines : (List Line)) (v_rates : (List Rat)) : Unit :=
  bd (v_lines.map (fun (xv6 : Line) => xv6.2.2.1)) (fun (v_rooms_9 : (List Int)) => ())
def s_ask_rates (v_lines : (List Line)) (v_rates : (List Rat)) : Prop :=
  ((sfl (fun (z1 : Unit) (xv2 : Rat) => ()) (fun (z1 : Unit) (xv2 : Rat) => (s_ask_fraction xv2 false)) v_rates ()) ∧ (((v_rates.length ≤ 10000) ∧ (s_ask ((!decide (((v_rates.filter (fun (xv3 : Rat) => (!decide (xv3 = (0 : Rat))))).map (fun (xv3 : Rat) => xv3)) = ([] : List Rat)))) (("somebody comes" : Str))) ∧ (((v_lines.length ≤ 10000) ∧ (bd (v_lines.map (fun (xv6 : Line) => xv6.2.2.1)) (fun (v_rooms_9 : (List Int)) => ((v_rooms_9 ≠ []) ∧ ((decide ((maxL v_rooms_9) = (0 : Int))) = true → ((v_lines.length ≤ 10000) ∧ (OkE (eL eLine) (((v_lines.filter (fun (xv13 : Line) => (!decide (xv13.2.1 = (0 : Rat))))).map (fun (xv13 : Line) => xv13)))) ∧ (OkE (eL eLine) (([] : List Line))) ∧ (s_ask ((decide (((v_lines.filter (fun (xv13 : Line) => (!decide (xv13.2.1 = (0 : Rat))))).map (fun (xv13 : Line) => xv13)) = ([] : List Line)))) (("hands that are no more behind the last speed" : Str))))) ∧ ((decide ((maxL v_rooms_9) = (0 : Int))) = false → ((v_rooms_9 ≠ []) ∧ (s_ask ((decide ((0 : Int) < (minL v_rooms_9)))) (("each line has a room, or none" : Str)))))))))))))
theorem e_ask_rates {v_lines : (List Line)} {v_rates : (List Rat)} (h : s_ask_rates v_lines v_rates) : fn_ask_rates [(eL eLine) v_lines, (eL fq) v_rates] = .ok (eN (t_ask_rates v_lines v_rates)) .ff .non := by
  refine runE (fb := fb_ask_rates) (x := t_ask_rates v_lines v_rates) ?_
  show JE (fb_ask_rates [.fz ((eL eLine) v_lines), zL v_rates, .un, .un, .un]) _
  delta fb_ask_rates t_ask_rates
  delta s_ask_rates at h
  exact sq (ρ1 := [.fz ((eL eLine) v_lines), zL v_rates, .un, .un, .un]) (forN (F := fq) (ctx := fun (z1 : Unit) => [.fz ((eL eLine) v_lines), zL v_rates, .un, .un, .un]) (i_L (F := fq) (vf 1 rfl)) h.1 (fun z1 xv2 h => ⟨_, rfl, sq (ρ1 := [.fz ((eL eLine) v_lines), zL v_rates, zQ xv2, .un, .un]) (sDrop (mfz (cN (x1 (vf 2 rfl) (x1 rfl x0)) rfl rfl (e_ask_fraction (v_one := xv2) (v_above_nought := false) h :) rfl))) (sq (sKill (show _ = [.fz ((eL eLine) v_lines), zL v_rates, .un, .un, .un] from rfl)) rfl)⟩)) (bdh h.2 (fun h => sq (ρ1 := [.fz ((eL eLine) v_lines), zL v_rates, .un, .un, .un]) (sDrop (mfz (cN (x1 (b2 (mfz (lcP (F := fq) (G := fq) (p := fun (xv3 : Rat) => (!decide (xv3 = (0 : Rat)))) (φ := fun (xv3 : Rat) => xv3) (ρ1 := [.fz ((eL eLine) v_lines), zL v_rates, .un, .un, .un]) (i_L (F := fq) (vf 1 rfl)) rfl (fun xv3 hx4 => ⟨_, rfl, tst (b2 (vf 2 rfl) rfl ((o_ne (F := fq) (x := xv3) (y := (0 : Rat)) gQ))), rfl, fun hc5 => ⟨_, vf 2 rfl, rfl⟩⟩) h.1 rfl)) (mfz (mlst a0)) ((o_ne (F := (eL fq)) (x := ((v_rates.filter (fun (xv3 : Rat) => (!decide (xv3 = (0 : Rat))))).map (fun (xv3 : Rat) => xv3))) (y := ([] : List Rat)) (gL gQ)))) (x1 rfl x0)) rfl rfl (e_ask (v_good := (!decide (((v_rates.filter (fun (xv3 : Rat) => (!decide (xv3 = (0 : Rat))))).map (fun (xv3 : Rat) => xv3)) = ([] : List Rat)))) (v_words := ("somebody comes" : Str)) h.2.1 :) rfl))) (bdh h.2.2 (fun h => sqB (ctx := fun (v_rooms_9 : (List Int)) => [.fz ((eL eLine) v_lines), zL v_rates, .un, .ow ((eL D.int) v_rooms_9), .un]) (sSetO (lcM (F := eLine) (G := D.int) (φ := fun (xv6 : Line) => xv6.2.2.1) (ρ1 := [.fz ((eL eLine) v_lines), zL v_rates, .un, .un, .un]) (i_L (F := eLine) (vf 0 rfl)) rfl (fun xv6 hx7 => ⟨_, rfl, rfl, _, b2 (vf 4 rfl) rfl rfl, rfl⟩) h.1 rfl) rfl) h.2 (fun v_rooms_9 h => sq (sFrz (i := 3) rfl (show _ = [.fz ((eL eLine) v_lines), zL v_rates, .un, zJ v_rooms_9, .un] from rfl)) (sq (ρ1 := [.fz ((eL eLine) v_lines), zL v_rates, .un, zJ v_rooms_9, .un]) (ifJ (ctx := fun (z16 : Unit) => [.fz ((eL eLine) v_lines), zL v_rates, .un, zJ v_rooms_9, .un]) (v := ()) (w := ()) (tst (b2 (c1 (a1 (vf 3 rfl) a0) (o_maxL h.1)) rfl dEq_i)) (fun hc => (bdh (h.2.1 hc) (fun h => jnE (ctx := fun (z16 : Unit) => [.fz ((eL eLine) v_lines), zL v_rates, .un, zJ v_rooms_9, .un]) (s := ()) (sq (ρ1 := [.fz ((eL eLine) v_lines), zL v_rates, .un, zJ v_rooms_9, .un]) (sDrop (mfz (cN (x1 (b2 (mfz (lcP (F := eLine) (G := eLine) (p := fun (xv13 : Line) => (!decide (xv13.2.1 = (0 : Rat)))) (φ := fun (xv13 : Line) => xv13) (ρ1 := [.fz ((eL eLine) v_lines), zL v_rates, .un, zJ v_rooms_9, .un]) (i_L (F := eLine) (vf 0 rfl)) rfl (fun xv13 hx14 => ⟨_, rfl, tst (b2 (b2 (vf 4 rfl) rfl rfl) rfl ((o_ne (F := fq) (x := xv13.2.1) (y := (0 : Rat)) gQ))), rfl, fun hc15 => ⟨_, vf 4 rfl, rfl⟩⟩) h.1 rfl)) (mfz (mlst a0)) ((o_eqx (F := (eL eLine)) (x := ((v_lines.filter (fun (xv13 : Line) => (!decide (xv13.2.1 = (0 : Rat))))).map (fun (xv13 : Line) => xv13))) (y := ([] : List Line)) (xL xLine) h.2.1 h.2.2.1))) (x1 rfl x0)) rfl rfl (e_ask (v_good := (decide (((v_lines.filter (fun (xv13 : Line) => (!decide (xv13.2.1 = (0 : Rat))))).map (fun (xv13 : Line) => xv13)) = ([] : List Line)))) (v_words := ("hands that are no more behind the last speed" : Str)) h.2.2.2 :) rfl))) rfl)))) (fun hc => (bdh (h.2.2 hc) (fun h => jnE (ctx := fun (z16 : Unit) => [.fz ((eL eLine) v_lines), zL v_rates, .un, zJ v_rooms_9, .un]) (s := ()) (sq (ρ1 := [.fz ((eL eLine) v_lines), zL v_rates, .un, zJ v_rooms_9, .un]) (sDrop (mfz (cN (x1 (b2 (c1 (a1 (vf 3 rfl) a0) (o_minL h.1)) rfl rfl) (x1 rfl x0)) rfl rfl (e_ask (v_good := (decide ((0 : Int) < (minL v_rooms_9)))) (v_words := ("each line has a room, or none" : Str)) h.2 :) rfl))) rfl))))) (⟨_, rfl⟩)))))))
noncomputable def fb_ask_counts : M Fl :=
  mSeq (mDrop (mFz (mCallN 2 none fn_ask (xV (mAndV (mBin dGe (mCall dMinL (mCons (mVar 2) mNil)) (M.pure (.int 0))) (mChain dLe dLe (M.pure (.int 1)) (mCall dSum (mCons (mVar 2) mNil)) (M.pure (.int 8)))) (xV (M.pure (.str "one to eight comers")) xNil)))))
    (mSeq (mDrop (mFz (mCallN 2 none fn_ask (xV (mBin dEq (mFz (mLc [5] (mIter (mVar 0)) (gN 5) (mTest (mBin dEq (mBin dIx (mVar 5) (M.pure (.int 3))) (M.pure (.str "lose")))) (mVar 5))) (mFz (mLst mNil))) (xV (M.pure (.str "nobody is lost")) xNil)))))
    (mSeq (mFor (mIter (mVar 1)) (gN 3) (mSeq (mDrop (mFz (mCallN 2 none fn_ask (xV (mBin dEq (mFz (mCallN 1 none Std.fn_total (xV (mFz (mLc [8, 9] (mIter (mBin dIx (mVar 3) (M.pure (.int 2)))) (gT 2 (gsC (gN 8) (gsC (gN 9) gsN))) (M.pure true) (mVar 9))) xNil))) (M.pure (.tup [(.int 1), (.int 1)]))) (xV (M.pure (.str "nobody leaves")) xNil)))))
    (mSeq (mKill [3]) mNx)))
    (mSeq (mFor (mEnum (mCons (mVar 0) mNil)) (gT 2 (gsC (gN 4) (gsC (gN 5) gsN))) (mSeq (mSet 6 (mOf (mCall dSum (mCons (mFz (mLc [7, 3] (mZip (mCons (mVar 2) (mCons (mVar 1) mNil))) (gT 2 (gsC (gN 7) (gsC (gN 3) gsN))) (mTest (mBin dEq (mBin dIx (mVar 3) (M.pure (.int 0))) (mVar 4))) (mVar 7))) mNil))))
    (mSeq (mDrop (mFz (mCallN 2 none fn_ask (xV (mOrV (mBin dEq (mBin dIx (mVar 5) (M.pure (.int 2))) (M.pure (.int 0))) (mBin dLe (mVar 6) (mBin dIx (mVar 5) (M.pure (.int 2))))) (xV (M.pure (.str "no more begin than there is room")) xNil)))))
    (mSeq (mKill [4, 5, 6]) mNx))))
    mNx)))
noncomputable def fn_ask_counts : List D → Rf := runF none 10 fb_ask_counts
noncomputable def t_ask_counts (v_lines : (List Line)) (v_stands : (List Stand)) (v_counts : (List Int)) : Unit :=
  ()
def s_ask_counts (v_lines : (List Line)) (v_stands : (List Stand)) (v_counts : (List Int)) : Prop :=
  ((v_counts ≠ []) ∧ (s_ask (((decide ((0 : Int) ≤ (minL v_counts))) && ((decide ((1 : Int) ≤ v_counts.sum)) && (decide (v_counts.sum ≤ (8 : Int)))))) (("one to eight comers" : Str))) ∧ (((v_lines.length ≤ 10000) ∧ (OkE (eL eLine) (((v_lines.filter (fun (xv3 : Line) => (decide (xv3.2.2.2 = ("lose" : Str))))).map (fun (xv3 : Line) => xv3)))) ∧ (OkE (eL eLine) (([] : List Line))) ∧ (s_ask ((decide (((v_lines.filter (fun (xv3 : Line) => (decide (xv3.2.2.2 = ("lose" : Str))))).map (fun (xv3 : Line) => xv3)) = ([] : List Line)))) (("nobody is lost" : Str))) ∧ (((sfl (fun (z6 : Unit) (xv7 : Stand) => ()) (fun (z6 : Unit) (xv7 : Stand) => ((xv7.2.2.length ≤ 10000) ∧ (Std.tsz ((xv7.2.2.map (fun (xv8 : Way) => xv8.2))) ≤ 80000000) ∧ (s_ask ((decide ((Std.sumQ ((xv7.2.2.map (fun (xv8 : Way) => xv8.2)))) = (1 : Rat)))) (("nobody leaves" : Str))))) v_stands ()) ∧ ((sfl (fun (z11 : Unit) (xv12 : (Int × Line)) => bd (((((v_counts.zip v_stands).filter (fun (xv13 : (Int × Stand)) => (decide (xv13.2.1 = xv12.1)))).map (fun (xv13 : (Int × Stand)) => xv13.1))).sum) (fun (v_many_16 : Int) => ())) (fun (z11 : Unit) (xv12 : (Int × Line)) => ((((v_counts.zip v_stands)).length ≤ 10000) ∧ (bd (((((v_counts.zip v_stands).filter (fun (xv13 : (Int × Stand)) => (decide (xv13.2.1 = xv12.1)))).map (fun (xv13 : (Int × Stand)) => xv13.1))).sum) (fun (v_many_16 : Int) => (s_ask (((decide (xv12.2.2.2.1 = (0 : Int))) || (decide (v_many_16 ≤ xv12.2.2.2.1)))) (("no more begin than there is room" : Str))))))) (enumI v_lines) ())))))))
theorem e_ask_counts {v_lines : (List Line)} {v_stands : (List Stand)} {v_counts : (List Int)} (h : s_ask_counts v_lines v_stands v_counts) : fn_ask_counts [(eL eLine) v_lines, (eL eStand) v_stands, (eL D.int) v_counts] = .ok (eN (t_ask_counts v_lines v_stands v_counts)) .ff .non := by
  refine runE (fb := fb_ask_counts) (x := t_ask_counts v_lines v_stands v_counts) ?_
  show JE (fb_ask_counts [.fz ((eL eLine) v_lines), .fz ((eL eStand) v_stands), zJ v_counts, .un, .un, .un, .un, .un, .un, .un]) _
  delta fb_ask_counts t_ask_counts
  delta s_ask_counts at h
  exact sq (ρ1 := [.fz ((eL eLine) v_lines), .fz ((eL eStand) v_stands), zJ v_counts, .un, .un, .un, .un, .un, .un, .un]) (sDrop (mfz (cN (x1 (anV (b2 (c1 (a1 (vf 2 rfl) a0) (o_minL h.1)) rfl rfl) (fun hc2 => chn rfl (c1 (a1 (vf 2 rfl) a0) o_sum) rfl (fun hc1 => rfl) (fun _ => rfl))) (x1 rfl x0)) rfl rfl (e_ask (v_good := ((decide ((0 : Int) ≤ (minL v_counts))) && ((decide ((1 : Int) ≤ v_counts.sum)) && (decide (v_counts.sum ≤ (8 : Int)))))) (v_words := ("one to eight comers" : Str)) h.2.1 :) rfl))) (bdh h.2.2 (fun h => sq (ρ1 := [.fz ((eL eLine) v_lines), .fz ((eL eStand) v_stands), zJ v_counts, .un, .un, .un, .un, .un, .un, .un]) (sDrop (mfz (cN (x1 (b2 (mfz (lcP (F := eLine) (G := eLine) (p := fun (xv3 : Line) => (decide (xv3.2.2.2 = ("lose" : Str)))) (φ := fun (xv3 : Line) => xv3) (ρ1 := [.fz ((eL eLine) v_lines), .fz ((eL eStand) v_stands), zJ v_counts, .un, .un, .un, .un, .un, .un, .un]) (i_L (F := eLine) (vf 0 rfl)) rfl (fun xv3 hx4 => ⟨_, rfl, tst (b2 (b2 (vf 5 rfl) rfl rfl) rfl dEq_s), rfl, fun hc5 => ⟨_, vf 5 rfl, rfl⟩⟩) h.1 rfl)) (mfz (mlst a0)) ((o_eqx (F := (eL eLine)) (x := ((v_lines.filter (fun (xv3 : Line) => (decide (xv3.2.2.2 = ("lose" : Str))))).map (fun (xv3 : Line) => xv3))) (y := ([] : List Line)) (xL xLine) h.2.1 h.2.2.1))) (x1 rfl x0)) rfl rfl (e_ask (v_good := (decide (((v_lines.filter (fun (xv3 : Line) => (decide (xv3.2.2.2 = ("lose" : Str))))).map (fun (xv3 : Line) => xv3)) = ([] : List Line)))) (v_words := ("nobody is lost" : Str)) h.2.2.2.1 :) rfl))) (bdh h.2.2.2.2 (fun h => sq (ρ1 := [.fz ((eL eLine) v_lines), .fz ((eL eStand) v_stands), zJ v_counts, .un, .un, .un, .un, .un, .un, .un]) (forN (F := eStand) (ctx := fun (z6 : Unit) => [.fz ((eL eLine) v_lines), .fz ((eL eStand) v_stands), zJ v_counts, .un, .un, .un, .un, .un, .un, .un]) (i_L (F := eStand) (vf 1 rfl)) h.1 (fun z6 xv7 h => ⟨_, rfl, sq (ρ1 := [.fz ((eL eLine) v_lines), .fz ((eL eStand) v_stands), zJ v_counts, .fz (eStand xv7), .un, .un, .un, .un, .un, .un]) (sDrop (mfz (cN (x1 (b2 (mfz (cN (x1 (mfz (lcM (F := eWay) (G := fq) (φ := fun (xv8 : Way) => xv8.2) (ρ1 := [.fz ((eL eLine) v_lines), .fz ((eL eStand) v_stands), zJ v_counts, .fz (eStand xv7), .un, .un, .un, .un, .un, .un]) (i_L (F := eWay) (b2 (vf 3 rfl) rfl rfl)) rfl (fun xv8 hx9 => ⟨_, rfl, rfl, _, vf 9 rfl, rfl⟩) h.1 rfl)) x0) rfl rfl (Std.e_total (xs := (xv7.2.2.map (fun (xv8 : Way) => xv8.2))) h.2.1 :) rfl)) rfl ((o_eq (F := fq) (x := (Std.sumQ ((xv7.2.2.map (fun (xv8 : Way) => xv8.2))))) (y := (1 : Rat)) gQ))) (x1 rfl x0)) rfl rfl (e_ask (v_good := (decide ((Std.sumQ ((xv7.2.2.map (fun (xv8 : Way) => xv8.2)))) = (1 : Rat)))) (v_words := ("nobody leaves" : Str)) h.2.2 :) rfl))) (sq (sKill (show _ = [.fz ((eL eLine) v_lines), .fz ((eL eStand) v_stands), zJ v_counts, .un, .un, .un, .un, .un, .un, .un] from rfl)) rfl)⟩)) (bdh h.2 (fun h => sq (ρ1 := [.fz ((eL eLine) v_lines), .fz ((eL eStand) v_stands), zJ v_counts, .un, .un, .un, .un, .un, .un, .un]) (forN (F := (eT2 D.int eLine)) (ctx := fun (z11 : Unit) => [.fz ((eL eLine) v_lines), .fz ((eL eStand) v_stands), zJ v_counts, .un, .un, .un, .un, .un, .un, .un]) (i_enum (F := eLine) (a1 (vf 0 rfl) a0)) h (fun z11 xv12 h => ⟨_, rfl, sqB (ctx := fun (v_many_16 : Int) => [.fz ((eL eLine) v_lines), .fz ((eL eStand) v_stands), zJ v_counts, .un, zI xv12.1, .fz (eLine xv12.2), zI v_many_16, .un, .un, .un]) (sSet (mof (c1 (a1 (mfz (lcP (F := (eT2 D.int eStand)) (G := D.int) (p := fun (xv13 : (Int × Stand)) => (decide (xv13.2.1 = xv12.1))) (φ := fun (xv13 : (Int × Stand)) => xv13.1) (ρ1 := [.fz ((eL eLine) v_lines), .fz ((eL eStand) v_stands), zJ v_counts, .un, zI xv12.1, .fz (eLine xv12.2), .un, .un, .un, .un]) (i_zip (F := D.int) (G := eStand) (a1 (vf 2 rfl) (a1 (vf 1 rfl) a0))) rfl (fun xv13 hx14 => ⟨_, rfl, tst (b2 (b2 (vf 3 rfl) rfl rfl) (vf 4 rfl) dEq_i), rfl, fun hc15 => ⟨_, vf 7 rfl, rfl⟩⟩) h.1 rfl)) a0) o_sum)) rfl) h.2 (fun v_many_16 h => sq (ρ1 := [.fz ((eL eLine) v_lines), .fz ((eL eStand) v_stands), zJ v_counts, .un, zI xv12.1, .fz (eLine xv12.2), zI v_many_16, .un, .un, .un]) (sDrop (mfz (cN (x1 (orV (b2 (b2 (vf 5 rfl) rfl rfl) rfl dEq_i) (fun hc17 => b2 (vf 6 rfl) (b2 (vf 5 rfl) rfl rfl) rfl)) (x1 rfl x0)) rfl rfl (e_ask (v_good := ((decide (xv12.2.2.2.1 = (0 : Int))) || (decide (v_many_16 ≤ xv12.2.2.2.1)))) (v_words := ("no more begin than there is room" : Str)) h :) rfl))) (sq (sKill (show _ = [.fz ((eL eLine) v_lines), .fz ((eL eStand) v_stands), zJ v_counts, .un, .un, .un, .un, .un, .un, .un] from rfl)) rfl))⟩)) (⟨_, rfl⟩)))))))
noncomputable def fb_ask_net : M Fl :=
  mSeq (mDrop (mFz (mCallN 2 none fn_ask (xV (mAndV (mChain dLe dLe (M.pure (.int 1)) (mCall dLen (mCons (mVar 0) mNil)) (M.pure (.int 8))) (mChain dLe dLe (M.pure (.int 1)) (mCall dLen (mCons (mVar 1) mNil)) (M.pure (.int 12)))) (xV (M.pure (.str "lines and stands")) xNil)))))
    (mSeq (mFor (mIter (mVar 0)) (gN 3) (mSeq (mDrop (mFz (mCallN 1 none fn_ask_line (xV (mVar 3) xNil))))
    (mSeq (mKill [3]) mNx)))
    (mSeq (mFor (mIter (mVar 1)) (gN 4) (mSeq (mDrop (mFz (mCallN 3 none fn_ask_stand (xV (mVar 4) (xV (mCall dLen (mCons (mVar 0) mNil)) (xV (mCall dLen (mCons (mVar 1) mNil)) xNil))))))
    (mSeq (mKill [4]) mNx)))
    (mSeq (mSet 5 (mLc [4] (mIter (mVar 1)) (gN 4) (M.pure true) (mBin dIx (mVar 4) (M.pure (.int 0)))))
    (mSeq (mFrz 5)
    (mSeq (mDrop (mFz (mCallN 2 none fn_ask (xV (mBin dEq (mFz (mLc [3] (mRange1 (mCons (mCall dLen (mCons (mVar 0) mNil)) mNil)) (gN 3) (mTest (mBin (dIn true) (mVar 3) (mVar 5))) (mVar 3))) (mFz (mLst mNil))) (xV (M.pure (.str "each line has a stand")) xNil)))))
    (mSeq (mAsg (gT 2 (gsC (gN 6) (gsC (gN 7) gsN))) (mVar 2))
    (mSeq (mDrop (mFz (mCallN 2 none fn_ask (xV (mAndV (mBin (dIn false) (mVar 6) (mTup (mCons (M.pure (.str "open")) (mCons (M.pure (.str "shut")) mNil)))) (mBin dEq (mCall dLen (mCons (mVar 7) mNil)) (mCall dLen (mCons (mVar 1) mNil)))) (xV (M.pure (.str "open or shut, a number a stand")) xNil)))))
    (mSeq (mIf (mTest (mBin dEq (mVar 6) (M.pure (.str "open")))) (mSeq (mDrop (mFz (mCallN 2 none fn_ask_rates (xV (mVar 0) (xV (mVar 7) xNil)))))
    mNx) (mSeq (mDrop (mFz (mCallN 3 none fn_ask_counts (xV (mVar 0) (xV (mVar 1) (xV (mVar 7) xNil))))))
    mNx))
    mNx))))))))
noncomputable def fn_ask_net : List D → Rf := runF none 8 fb_ask_net
noncomputable def t_ask_net (v_lines : (List Line)) (v_stands : (List Stand)) (v_comers : (Str × Num)) : Unit :=
  bd (v_stands.map (fun (xv8 : Stand) => xv8.1)) (fun (v_used_11 : (List Int)) => bd v_comers (fun (z15 : (Str × Num)) => ()))
def s_ask_net (v_lines : (List Line)) (v_stands : (List Stand)) (v_comers : (Str × Num)) : Prop :=
  ((s_ask ((((decide ((1 : Int) ≤ (v_lines.length : Int))) && (decide ((v_lines.length : Int) ≤ (8 : Int)))) && ((decide ((1 : Int) ≤ (v_stands.length : Int))) && (decide ((v_stands.length : Int) ≤ (12 : Int)))))) (("lines and stands" : Str))) ∧ (((sfl (fun (z4 : Unit) (xv5 : Line) => ()) (fun (z4 : Unit) (xv5 : Line) => (s_ask_line xv5)) v_lines ()) ∧ (((sfl (fun (z6 : Unit) (xv7 : Stand) => ()) (fun (z6 : Unit) (xv7 : Stand) => (s_ask_stand xv7 ((v_lines.length : Int)) ((v_stands.length : Int)))) v_stands ()) ∧ (((v_stands.length ≤ 10000) ∧ (bd (v_stands.map (fun (xv8 : Stand) => xv8.1)) (fun (v_used_11 : (List Int)) => ((-100000000 < ((v_lines.length : Int)) ∧ ((v_lines.length : Int)) < 100000000) ∧ (((rangeI 0 ((v_lines.length : Int)))).length ≤ 10000) ∧ (s_ask ((decide ((((rangeI 0 ((v_lines.length : Int))).filter (fun (xv12 : Int) => (!decide (xv12 ∈ v_used_11)))).map (fun (xv12 : Int) => xv12)) = ([] : List Int)))) (("each line has a stand" : Str))) ∧ (bd v_comers (fun (z15 : (Str × Num)) => ((s_ask (((decide (z15.1 ∈ [("open" : Str), ("shut" : Str)])) && (decide (((numLen z15.2) : Int) = (v_stands.length : Int))))) (("open or shut, a number a stand" : Str))) ∧ ((((decide (z15.1 = ("open" : Str))) = true → ((z15.2.isLeft = true) ∧ (s_ask_rates v_lines ((numQ z15.2))))) ∧ ((decide (z15.1 = ("open" : Str))) = false → ((z15.2.isRight = true) ∧ (s_ask_counts v_lines v_stands ((numI z15.2))))))))))))))))))))
theorem e_ask_net {v_lines : (List Line)} {v_stands : (List Stand)} {v_comers : (Str × Num)} (h : s_ask_net v_lines v_stands v_comers) : fn_ask_net [(eL eLine) v_lines, (eL eStand) v_stands, (eT2 D.str eNum) v_comers] = .ok (eN (t_ask_net v_lines v_stands v_comers)) .ff .non := by
  refine runE (fb := fb_ask_net) (x := t_ask_net v_lines v_stands v_comers) ?_
  show JE (fb_ask_net [.fz ((eL eLine) v_lines), .fz ((eL eStand) v_stands), .fz ((eT2 D.str eNum) v_comers), .un, .un, .un, .un, .un]) _
  delta fb_ask_net t_ask_net
  delta s_ask_net at h
  exact sq (ρ1 := [.fz ((eL eLine) v_lines), .fz ((eL eStand) v_stands), .fz ((eT2 D.str eNum) v_comers), .un, .un, .un, .un, .un]) (sDrop (mfz (cN (x1 (anV (chn rfl (c1 (a1 (vf 0 rfl) a0) (o_lenL (F := eLine))) rfl (fun hc1 => rfl) (fun _ => rfl)) (fun hc3 => chn rfl (c1 (a1 (vf 1 rfl) a0) (o_lenL (F := eStand))) rfl (fun hc2 => rfl) (fun _ => rfl))) (x1 rfl x0)) rfl rfl (e_ask (v_good := (((decide ((1 : Int) ≤ (v_lines.length : Int))) && (decide ((v_lines.length : Int) ≤ (8 : Int)))) && ((decide ((1 : Int) ≤ (v_stands.length : Int))) && (decide ((v_stands.length : Int) ≤ (12 : Int)))))) (v_words := ("lines and stands" : Str)) h.1 :) rfl))) (bdh h.2 (fun h => sq (ρ1 := [.fz ((eL eLine) v_lines), .fz ((eL eStand) v_stands), .fz ((eT2 D.str eNum) v_comers), .un, .un, .un, .un, .un]) (forN (F := eLine) (ctx := fun (z4 : Unit) => [.fz ((eL eLine) v_lines), .fz ((eL eStand) v_stands), .fz ((eT2 D.str eNum) v_comers), .un, .un, .un, .un, .un]) (i_L (F := eLine) (vf 0 rfl)) h.1 (fun z4 xv5 h => ⟨_, rfl, sq (ρ1 := [.fz ((eL eLine) v_lines), .fz ((eL eStand) v_stands), .fz ((eT2 D.str eNum) v_comers), .fz (eLine xv5), .un, .un, .un, .un]) (sDrop (mfz (cN (x1 (vf 3 rfl) x0) rfl rfl (e_ask_line (v_line := xv5) h :) rfl))) (sq (sKill (show _ = [.fz ((eL eLine) v_lines), .fz ((eL eStand) v_stands), .fz ((eT2 D.str eNum) v_comers), .un, .un, .un, .un, .un] from rfl)) rfl)⟩)) (bdh h.2 (fun h => sq (ρ1 := [.fz ((eL eLine) v_lines), .fz ((eL eStand) v_stands), .fz ((eT2 D.str eNum) v_comers), .un, .un, .un, .un, .un]) (forN (F := eStand) (ctx := fun (z6 : Unit) => [.fz ((eL eLine) v_lines), .fz ((eL eStand) v_stands), .fz ((eT2 D.str eNum) v_comers), .un, .un, .un, .un, .un]) (i_L (F := eStand) (vf 1 rfl)) h.1 (fun z6 xv7 h => ⟨_, rfl, sq (ρ1 := [.fz ((eL eLine) v_lines), .fz ((eL eStand) v_stands), .fz ((eT2 D.str eNum) v_comers), .un, .fz (eStand xv7), .un, .un, .un]) (sDrop (mfz (cN (x1 (vf 4 rfl) (x1 (c1 (a1 (vf 0 rfl) a0) (o_lenL (F := eLine))) (x1 (c1 (a1 (vf 1 rfl) a0) (o_lenL (F := eStand))) x0))) rfl rfl (e_ask_stand (v_stand := xv7) (v_lines := (v_lines.length : Int)) (v_many := (v_stands.length : Int)) h :) rfl))) (sq (sKill (show _ = [.fz ((eL eLine) v_lines), .fz ((eL eStand) v_stands), .fz ((eT2 D.str eNum) v_comers), .un, .un, .un, .un, .un] from rfl)) rfl)⟩)) (bdh h.2 (fun h => sqB (ctx := fun (v_used_11 : (List Int)) => [.fz ((eL eLine) v_lines), .fz ((eL eStand) v_stands), .fz ((eT2 D.str eNum) v_comers), .un, .un, .ow ((eL D.int) v_used_11), .un, .un]) (sSetO (lcM (F := eStand) (G := D.int) (φ := fun (xv8 : Stand) => xv8.1) (ρ1 := [.fz ((eL eLine) v_lines), .fz ((eL eStand) v_stands), .fz ((eT2 D.str eNum) v_comers), .un, .un, .un, .un, .un]) (i_L (F := eStand) (vf 1 rfl)) rfl (fun xv8 hx9 => ⟨_, rfl, rfl, _, b2 (vf 4 rfl) rfl rfl, rfl⟩) h.1 rfl) rfl) h.2 (fun v_used_11 h => sq (sFrz (i := 5) rfl (show _ = [.fz ((eL eLine) v_lines), .fz ((eL eStand) v_stands), .fz ((eT2 D.str eNum) v_comers), .un, .un, zJ v_used_11, .un, .un] from rfl)) (sq (ρ1 := [.fz ((eL eLine) v_lines), .fz ((eL eStand) v_stands), .fz ((eT2 D.str eNum) v_comers), .un, .un, zJ v_used_11, .un, .un]) (sDrop (mfz (cN (x1 (b2 (mfz (lcP (F := D.int) (G := D.int) (p := fun (xv12 : Int) => (!decide (xv12 ∈ v_used_11))) (φ := fun (xv12 : Int) => xv12) (ρ1 := [.fz ((eL eLine) v_lines), .fz ((eL eStand) v_stands), .fz ((eT2 D.str eNum) v_comers), .un, .un, zJ v_used_11, .un, .un]) (i_r1 (a1 (c1 (a1 (vf 0 rfl) a0) (o_lenL (F := eLine))) a0) h.1) rfl (fun xv12 hx13 => ⟨_, rfl, tst (b2 (vf 3 rfl) (vf 5 rfl) (o_ninI (x := xv12) (ys := v_used_11))), rfl, fun hc14 => ⟨_, vf 3 rfl, rfl⟩⟩) h.2.1 rfl)) (mfz (mlst a0)) ((o_eq (F := (eL D.int)) (x := (((rangeI 0 ((v_lines.length : Int))).filter (fun (xv12 : Int) => (!decide (xv12 ∈ v_used_11)))).map (fun (xv12 : Int) => xv12))) (y := ([] : List Int)) (gL gI)))) (x1 rfl x0)) rfl rfl (e_ask (v_good := (decide ((((rangeI 0 ((v_lines.length : Int))).filter (fun (xv12 : Int) => (!decide (xv12 ∈ v_used_11)))).map (fun (xv12 : Int) => xv12)) = ([] : List Int)))) (v_words := ("each line has a stand" : Str)) h.2.2.1 :) rfl))) (bdh h.2.2.2 (fun h => sqB (ctx := fun (z15 : (Str × Num)) => [.fz ((eL eLine) v_lines), .fz ((eL eStand) v_stands), .fz ((eT2 D.str eNum) v_comers), .un, .un, zJ v_used_11, .fz (D.str z15.1), .fz (eNum z15.2)]) (sAsg (vf 2 rfl) rfl) h (fun z15 h => sq (ρ1 := [.fz ((eL eLine) v_lines), .fz ((eL eStand) v_stands), .fz ((eT2 D.str eNum) v_comers), .un, .un, zJ v_used_11, .fz (D.str z15.1), .fz (eNum z15.2)]) (sDrop (mfz (cN (x1 (anV (b2 (vf 6 rfl) (mtup (a1 rfl (a1 rfl a0))) (o_inSV (x := z15.1) (ys := [("open" : Str), ("shut" : Str)]))) (fun hc16 => b2 (c1 (a1 (vf 7 rfl) a0) o_lenNum) (c1 (a1 (vf 1 rfl) a0) (o_lenL (F := eStand))) dEq_i)) (x1 rfl x0)) rfl rfl (e_ask (v_good := ((decide (z15.1 ∈ [("open" : Str), ("shut" : Str)])) && (decide (((numLen z15.2) : Int) = (v_stands.length : Int))))) (v_words := ("open or shut, a number a stand" : Str)) h.1 :) rfl))) (bdh h.2 (fun h => sq (ρ1 := [.fz ((eL eLine) v_lines), .fz ((eL eStand) v_stands), .fz ((eT2 D.str eNum) v_comers), .un, .un, zJ v_used_11, .fz (D.str z15.1), .fz (eNum z15.2)]) (ifJ (ctx := fun (z17 : Unit) => [.fz ((eL eLine) v_lines), .fz ((eL eStand) v_stands), .fz ((eT2 D.str eNum) v_comers), .un, .un, zJ v_used_11, .fz (D.str z15.1), .fz (eNum z15.2)]) (v := ()) (w := ()) (tst (b2 (vf 6 rfl) rfl dEq_s)) (fun hc => (bdh (h.1 hc) (fun h => jnE (ctx := fun (z17 : Unit) => [.fz ((eL eLine) v_lines), .fz ((eL eStand) v_stands), .fz ((eT2 D.str eNum) v_comers), .un, .un, zJ v_used_11, .fz (D.str z15.1), .fz (eNum z15.2)]) (s := ()) (sq (ρ1 := [.fz ((eL eLine) v_lines), .fz ((eL eStand) v_stands), .fz ((eT2 D.str eNum) v_comers), .un, .un, zJ v_used_11, .fz (D.str z15.1), .fz (eNum z15.2)]) (sDrop (mfz (cN (x1 (vf 0 rfl) (x1 ((cNumQ (vf 7 rfl) h.1)) x0)) rfl rfl (e_ask_rates (v_lines := v_lines) (v_rates := (numQ z15.2)) h.2 :) rfl))) rfl)))) (fun hc => (bdh (h.2 hc) (fun h => jnE (ctx := fun (z17 : Unit) => [.fz ((eL eLine) v_lines), .fz ((eL eStand) v_stands), .fz ((eT2 D.str eNum) v_comers), .un, .un, zJ v_used_11, .fz (D.str z15.1), .fz (eNum z15.2)]) (s := ()) (sq (ρ1 := [.fz ((eL eLine) v_lines), .fz ((eL eStand) v_stands), .fz ((eT2 D.str eNum) v_comers), .un, .un, zJ v_used_11, .fz (D.str z15.1), .fz (eNum z15.2)]) (sDrop (mfz (cN (x1 (vf 0 rfl) (x1 (vf 1 rfl) (x1 ((cNumI (vf 7 rfl) h.1)) x0))) rfl rfl (e_ask_counts (v_lines := v_lines) (v_stands := v_stands) (v_counts := (numI z15.2)) h.2 :) rfl))) rfl))))) (⟨_, rfl⟩))))))))))))))
noncomputable def fb_made_net : M Fl :=
  mSeq (mDrop (mFz (mCallN 3 none fn_ask_net (xV (mVar 0) (xV (mVar 1) (xV (mVar 2) xNil))))))
    (mSeq (mSet 3 (mLc [4, 5, 6, 7] (mIter (mVar 0)) (gT 4 (gsC (gN 4) (gsC (gN 5) (gsC (gN 6) (gsC (gN 7) gsN))))) (M.pure true) (mTup (mCons (mFz (mListOf (mCons (mVar 4) mNil))) (mCons (mVar 5) (mCons (mVar 6) (mCons (mVar 7) mNil)))))))
    (mSeq (mFrz 3)
    (mRet (mOf (mTup (mCons (mVar 3) (mCons (mFz (mLc [8, 9, 10] (mIter (mVar 1)) (gT 3 (gsC (gN 8) (gsC (gN 9) (gsC (gN 10) gsN)))) (M.pure true) (mTup (mCons (mVar 8) (mCons (mVar 9) (mCons (mFz (mListOf (mCons (mVar 10) mNil))) mNil)))))) (mCons (mTup (mCons (mBin dIx (mVar 2) (M.pure (.int 0))) (mCons (mFz (mListOf (mCons (mBin dIx (mVar 2) (M.pure (.int 1))) mNil))) mNil))) mNil))))))))
noncomputable def fn_made_net : List D → Rf := runF none 11 fb_made_net
noncomputable def t_made_net (v_lines : (List Line)) (v_stands : (List Stand)) (v_comers : (Str × Num)) : Net :=
  bd (v_lines.map (fun (xv1 : Line) => (xv1.1, xv1.2.1, xv1.2.2.1, xv1.2.2.2))) (fun (v_made_4 : (List Line)) => (v_made_4, (v_stands.map (fun (xv5 : Stand) => (xv5.1, xv5.2.1, xv5.2.2))), (v_comers.1, v_comers.2)))
def s_made_net (v_lines : (List Line)) (v_stands : (List Stand)) (v_comers : (Str × Num)) : Prop :=
  ((s_ask_net v_lines v_stands v_comers) ∧ (((v_lines.length ≤ 10000) ∧ (bd (v_lines.map (fun (xv1 : Line) => (xv1.1, xv1.2.1, xv1.2.2.1, xv1.2.2.2))) (fun (v_made_4 : (List Line)) => (v_stands.length ≤ 10000))))))
theorem e_made_net {v_lines : (List Line)} {v_stands : (List Stand)} {v_comers : (Str × Num)} (h : s_made_net v_lines v_stands v_comers) : fn_made_net [(eL eLine) v_lines, (eL eStand) v_stands, (eT2 D.str eNum) v_comers] = .ok (eNet (t_made_net v_lines v_stands v_comers)) .ff .non := by
  refine run0 (F := eNet) (o := .ff) (fb := fb_made_net) (x := t_made_net v_lines v_stands v_comers) ?_
  show JR eNet .ff (fb_made_net [.fz ((eL eLine) v_lines), .fz ((eL eStand) v_stands), .fz ((eT2 D.str eNum) v_comers), .un, .un, .un, .un, .un, .un, .un, .un]) _
  delta fb_made_net t_made_net
  delta s_made_net at h
  exact sq (ρ1 := [.fz ((eL eLine) v_lines), .fz ((eL eStand) v_stands), .fz ((eT2 D.str eNum) v_comers), .un, .un, .un, .un, .un, .un, .un, .un]) (sDrop (mfz (cN (x1 (vf 0 rfl) (x1 (vf 1 rfl) (x1 (vf 2 rfl) x0))) rfl rfl (e_ask_net (v_lines := v_lines) (v_stands := v_stands) (v_comers := v_comers) h.1 :) rfl))) (bdh h.2 (fun h => sqB (ctx := fun (v_made_4 : (List Line)) => [.fz ((eL eLine) v_lines), .fz ((eL eStand) v_stands), .fz ((eT2 D.str eNum) v_comers), .ow ((eL eLine) v_made_4), .un, .un, .un, .un, .un, .un, .un]) (sSetO (lcM (F := eLine) (G := eLine) (φ := fun (xv1 : Line) => (xv1.1, xv1.2.1, xv1.2.2.1, xv1.2.2.2)) (ρ1 := [.fz ((eL eLine) v_lines), .fz ((eL eStand) v_stands), .fz ((eT2 D.str eNum) v_comers), .un, .un, .un, .un, .un, .un, .un, .un]) (i_L (F := eLine) (vf 0 rfl)) rfl (fun xv1 hx2 => ⟨_, rfl, rfl, _, mtup (a1 (mfz (lofL (F := fq) (a1 (vf 4 rfl) a0))) (a1 (vf 5 rfl) (a1 (vf 6 rfl) (a1 (vf 7 rfl) a0)))), rfl⟩) h.1 rfl) rfl) h.2 (fun v_made_4 h => sq (sFrz (i := 3) rfl (show _ = [.fz ((eL eLine) v_lines), .fz ((eL eStand) v_stands), .fz ((eT2 D.str eNum) v_comers), .fz ((eL eLine) v_made_4), .un, .un, .un, .un, .un, .un, .un] from rfl)) (sRet (mof (mtup (a1 (vf 3 rfl) (a1 (mfz (lcM (F := eStand) (G := eStand) (φ := fun (xv5 : Stand) => (xv5.1, xv5.2.1, xv5.2.2)) (ρ1 := [.fz ((eL eLine) v_lines), .fz ((eL eStand) v_stands), .fz ((eT2 D.str eNum) v_comers), .fz ((eL eLine) v_made_4), .un, .un, .un, .un, .un, .un, .un]) (i_L (F := eStand) (vf 1 rfl)) rfl (fun xv5 hx6 => ⟨_, rfl, rfl, _, mtup (a1 (vf 8 rfl) (a1 (vf 9 rfl) (a1 (mfz (lofL (F := eWay) (a1 (vf 10 rfl) a0))) a0))), rfl⟩) h rfl)) (a1 (mtup (a1 (b2 (vf 2 rfl) rfl rfl) (a1 (mfz (lofNum (a1 (b2 (vf 2 rfl) rfl rfl) a0))) a0))) a0))))) (jr_mk rfl)))))
end Net
namespace Dt
open PySem L2
@[simp] theorem bd_eq {α β : Sort _} (v : α) (b : α → β) : bd v b = b v := rfl
inductive All2 {α β : Type} (R : α → β → Prop) : List α → List β → Prop
  | nil : All2 R [] []
  | cons {x : α} {y : β} {xs : List α} {ys : List β} : R x y → All2 R xs ys → All2 R (x :: xs) (y :: ys)
theorem All2.len {α β : Type} {R : α → β → Prop} {xs : List α} {ys : List β} (h : All2 R xs ys) : xs.length = ys.length := by
  induction h with
  | nil => rfl
  | cons _ _ ih => simp [ih]
theorem All2.right {α β : Type} {P : β → Prop} {R : α → β → Prop} {xs : List α} {ys : List β} (h : All2 R xs ys) (k : ∀ x ∈ xs, ∀ y, R x y → P y) : ∀ y ∈ ys, P y := by
  induction h with
  | nil => intro y hy; cases hy
  | cons r t ih =>
    intro y hy
    rcases List.mem_cons.mp hy with rfl | hy
    · exact k _ (by simp) _ r
    · exact ih (fun x hx => k x (List.mem_cons_of_mem _ hx)) y hy
theorem All2.get {α β : Type} {R : α → β → Prop} {xs : List α} {ys : List β} (h : All2 R xs ys) : ∀ (k : Nat) (h1 : k < xs.length) (h2 : k < ys.length), R xs[k] ys[k] := by
  induction h with
  | nil => intro k h1; simp at h1
  | cons r t ih =>
    intro k h1 h2
    cases k with
    | zero => exact r
    | succ k => exact ih k (by simpa using h1) (by simpa using h2)
section
variable {σ α β ρ : Type}
theorem sfl_all {f : σ → α → σ} {S : σ → α → Prop} : ∀ {xs : List α} {s : σ}, (∀ s, ∀ x ∈ xs, S s x) → sfl f S xs s
  | [], _, _ => trivial
  | x :: r, s, h => ⟨h s x (by simp), sfl_all fun s y hy => h s y (List.mem_cons_of_mem _ hy)⟩
theorem sfl_of {f : σ → α → σ} {S : σ → α → Prop} (I : Nat → σ → Prop) : ∀ (xs : List α) (s : σ) (k : Nat), I k s → (∀ j (hj : j < xs.length) s, I (k + j) s → S s xs[j] ∧ I (k + j + 1) (f s xs[j])) → sfl f S xs s ∧ I (k + xs.length) (xs.foldl f s)
  | [], s, k, h, _ => ⟨trivial, h⟩
  | x :: r, s, k, h, hs => by
    obtain ⟨h1, h2⟩ := hs 0 (by simp) s h
    obtain ⟨h3, h4⟩ := sfl_of I r (f s x) (k + 1) h2 (fun j hj s hI => by
      have := hs (j + 1) (by simpa using hj) s (by rw [show k + (j + 1) = k + 1 + j by omega]; exact hI)
      rw [show k + (j + 1) + 1 = k + 1 + j + 1 by omega] at this
      exact this)
    refine ⟨⟨h1, h3⟩, ?_⟩
    rw [show k + (x :: r).length = k + 1 + r.length by simp; omega]
    exact h4
theorem sfl_of0 {f : σ → α → σ} {S : σ → α → Prop} (I : Nat → σ → Prop) (xs : List α) (s : σ) (h : I 0 s) (hs : ∀ j (hj : j < xs.length) s, I j s → S s xs[j] ∧ I (j + 1) (f s xs[j])) : sfl f S xs s ∧ I xs.length (xs.foldl f s) := by
  have := sfl_of I xs s 0 h (fun j hj s hI => by rw [Nat.zero_add] at hI ⊢; exact hs j hj s hI)
  rw [Nat.zero_add] at this; exact this
theorem lcS_map {e : α → σ → β × σ} {S : α → σ → Prop} (R : α → β → Prop) : ∀ (xs : List α) (s : σ),
    (∀ x ∈ xs, ∀ s, S x s ∧ R x (e x s).1) → slcS (fun _ s => (true, s)) e S xs s ∧ All2 R xs (lcS (fun _ s => (true, s)) e xs s).1
  | [], s, _ => ⟨trivial, .nil⟩
  | x :: r, s, hs => by
    obtain ⟨h1, h2⟩ := hs x (by simp) s
    obtain ⟨h3, h4⟩ := lcS_map (e := e) (S := S) R r (e x s).2 (fun y hy => hs y (List.mem_cons_of_mem _ hy))
    exact ⟨⟨h1, fun _ => h3, fun z => by cases z⟩, .cons h2 h4⟩
theorem swh_of {c : σ → Bool} {f : σ → σ} {S : σ → Prop} (I : σ → Prop) (m : σ → Nat) (hs : ∀ s, I s → S s ∧ (c s = true → I (f s) ∧ m (f s) < m s)) : ∀ (n : Nat) (s : σ), m s < n → I s → swN c f S n s ∧ I (itN c f n s) ∧ c (itN c f n s) = false
  | 0, _, h, _ => by omega
  | n + 1, s, h, hI => by
    obtain ⟨h1, h2⟩ := hs s hI
    unfold swN itN
    cases q : c s with
    | false => exact ⟨⟨h1, fun z => by cases z⟩, hI, q⟩
    | true =>
      obtain ⟨h3, h4⟩ := h2 q
      obtain ⟨i1, i2, i3⟩ := swh_of I m hs n (f s) (by omega) h3
      exact ⟨⟨h1, fun _ => i1⟩, i2, i3⟩
theorem whl_of {c : σ → Bool} {f : σ → σ} {S : σ → Prop} (I : σ → Prop) (m : σ → Nat) (hs : ∀ s, I s → S s ∧ (c s = true → I (f s) ∧ m (f s) < m s)) {s : σ} (h : I s) : swh c f S s ∧ I (whl c f s) ∧ c (whl c f s) = false := by
  obtain ⟨h1, h2, h3⟩ := swh_of I m hs (m s + 1) s (by omega) h
  rw [whl_eq (swN_st _ s h1)]
  exact ⟨⟨_, h1⟩, h2, h3⟩
end
theorem rangeI_len (lo hi : Int) : (rangeI lo hi).length = (hi - lo).toNat := by unfold rangeI; rw [List.length_map, List.length_range]
theorem rangeI_get {lo hi : Int} {k : Nat} (h : k < (rangeI lo hi).length) : (rangeI lo hi)[k] = lo + (k : Int) := by
  have : (rangeI lo hi)[k]? = some (lo + (k : Int)) := by
    have h' := h
    rw [rangeI_len] at h'
    unfold rangeI
    rw [List.getElem?_map, List.getElem?_range h']; rfl
  rw [List.getElem?_eq_getElem h] at this
  injection this
theorem mem_rangeI {lo hi x : Int} : x ∈ rangeI lo hi ↔ lo ≤ x ∧ x < hi := by
  unfold rangeI
  rw [List.mem_map]
  constructor
  · rintro ⟨k, hk, rfl⟩
    rw [List.mem_range] at hk
    omega
  · intro h
    exact ⟨(x - lo).toNat, by rw [List.mem_range]; omega, by omega⟩
theorem ix_nat {α : Type} [Inhabited α] {xs : List α} {i : Int} (h0 : 0 ≤ i) (h1 : i < xs.length) : ∃ h : i.toNat < xs.length, ix xs i = xs[i.toNat] := by
  have h : i.toNat < xs.length := by omega
  refine ⟨h, ?_⟩
  unfold ix ixN'
  rw [if_neg (by omega), List.getD_eq_getElem?_getD, List.getElem?_eq_getElem h]; rfl
theorem ix_mem {α : Type} [Inhabited α] {xs : List α} {i : Int} (h : InB xs.length i) : ix xs i ∈ xs := by
  obtain ⟨_, h2⟩ := ixN_of h
  unfold ix
  rw [List.getD_eq_getElem?_getD, List.getElem?_eq_getElem h2]
  exact List.getElem_mem h2
theorem inB_nat {n : Nat} {i : Int} (h0 : 0 ≤ i) (h1 : i < n) : InB n i := ⟨by omega, h1⟩
theorem mem_enumI {α : Type} {xs : List α} {p : Int × α} (h : p ∈ enumI xs) : ∃ k, ∃ hk : k < xs.length, p = ((k : Int), xs[k]) := by
  unfold enumI at h
  obtain ⟨k, hk, rfl⟩ := List.mem_iff_getElem.mp h
  rw [List.length_zip, rangeI_len] at hk
  have h1 : k < xs.length := by omega
  refine ⟨k, h1, ?_⟩
  rw [List.getElem_zip, rangeI_get]
  simp
theorem enumI_len {α : Type} (xs : List α) : (enumI xs).length = xs.length := by
  unfold enumI
  rw [List.length_zip, rangeI_len]; omega
theorem cut_butlast {α : Type} {xs : List α} : cut xs none (some (-1)) = xs.dropLast := by
  have e : HT.sIx xs.length xs.length (some (-1)) = xs.length - 1 := by
    show (if (-1 : Int) < 0 then (-1 + (xs.length : Int)).toNat else min (-1 : Int).toNat xs.length) = _
    rw [if_pos (by decide)]; omega
  unfold cut
  rw [e]
  show (xs.drop 0).take (xs.length - 1 - 0) = _
  rw [List.drop_zero, List.dropLast_eq_take]; rfl
theorem cut_tail {α : Type} {xs : List α} : cut xs (some 1) none = xs.drop 1 := by
  have e : HT.sIx xs.length 0 (some 1) = min 1 xs.length := by
    show (if (1 : Int) < 0 then (1 + (xs.length : Int)).toNat else min (1 : Int).toNat xs.length) = _
    rw [if_neg (by decide)]; rfl
  unfold cut
  rw [e]
  show (xs.drop _).take (xs.length - _) = _
  rw [List.take_of_length_le (by rw [List.length_drop]; exact Nat.le_refl _)]
  cases xs with
  | nil => rfl
  | cons x r =>
    rw [show min 1 (x :: r).length = 1 by simp]
theorem maxL_mem {xs : List Int} (h : xs ≠ []) : maxL xs ∈ xs := by
  cases xs with
  | nil => exact absurd rfl h
  | cons n ns =>
    rcases (foldl_max n ns).1 with q | q
    · show ns.foldl max n ∈ _; rw [q]; simp
    · exact List.mem_cons_of_mem _ q
theorem le_maxL {xs : List Int} {x : Int} (h : x ∈ xs) : x ≤ maxL xs := by
  cases xs with
  | nil => cases h
  | cons n ns =>
    rcases List.mem_cons.mp h with rfl | h
    · exact (foldl_max x ns).2.1
    · exact (foldl_max n ns).2.2 x h
theorem minL_mem {xs : List Int} (h : xs ≠ []) : minL xs ∈ xs := by
  cases xs with
  | nil => exact absurd rfl h
  | cons n ns =>
    rcases (foldl_min n ns).1 with q | q
    · show ns.foldl min n ∈ _; rw [q]; simp
    · exact List.mem_cons_of_mem _ q
end Dt
namespace Dt
section
variable {α β : Type} {P : β → Prop} {A B S1 S2 : Prop} {t t1 t2 : β} {c : Bool}
theorem hd_bd {v : α} {S : α → Prop} {b : α → β} (Q : α → Prop) (hq : Q v) (h : ∀ z, Q z → S z ∧ P (b z)) : bd v S ∧ P (bd v b) := h v hq
theorem hd_eq {v : α} {S : α → Prop} {b : α → β} (h : S v ∧ P (b v)) : bd v S ∧ P (bd v b) := h
theorem hd_and (a : A) (h : B ∧ P t) : (A ∧ B) ∧ P t := ⟨⟨a, h.1⟩, h.2⟩
theorem hd_fold {σ : Type} {f : σ → α → σ} {S : σ → α → Prop} {xs : List α} {s : σ} {S' : σ → Prop} {b : σ → β} (I : Nat → σ → Prop) (h0 : I 0 s) (hs : ∀ j (hj : j < xs.length) s, I j s → S s xs[j] ∧ I (j + 1) (f s xs[j])) (h : ∀ z, I xs.length z → S' z ∧ P (b z)) : (sfl f S xs s ∧ bd (xs.foldl f s) S') ∧ P (bd (xs.foldl f s) b) := by
  obtain ⟨h1, h2⟩ := sfl_of0 I xs s h0 hs
  exact ⟨⟨h1, (h _ h2).1⟩, (h _ h2).2⟩
theorem hd_wh {σ : Type} {c : σ → Bool} {f : σ → σ} {S : σ → Prop} {s : σ} {S' : σ → Prop} {b : σ → β} (I : σ → Prop) (m : σ → Nat) (h0 : I s) (hs : ∀ s, I s → S s ∧ (c s = true → I (f s) ∧ m (f s) < m s)) (h : ∀ z, I z → c z = false → S' z ∧ P (b z)) : (swh c f S s ∧ bd (whl c f s) S') ∧ P (bd (whl c f s) b) := by
  obtain ⟨h1, h2, h3⟩ := whl_of I m hs h0
  exact ⟨⟨h1, (h _ h2 h3).1⟩, (h _ h2 h3).2⟩
theorem hd_last {v : α} (h : (A ∧ bd v (fun _ => True)) ∧ P t) : A ∧ P t := ⟨h.1.1, h.2⟩
end
end Dt
namespace Net
open PySem L2 Dt Std
theorem s_ask_iff {g : Bool} {w : Str} : s_ask g w ↔ g = true := by
  unfold s_ask; cases g <;> simp
def SmQ (q : Rat) : Prop := 0 ≤ q.num ∧ q.num ≤ 1000 ∧ q.den ≤ 1000
structure GoodLine (l : Line) : Prop where
  n1 : 1 ≤ l.1.length
  n6 : l.1.length ≤ 6
  sp : ∀ x ∈ l.1, SmQ x ∧ 0 < x
  up : l.1.Pairwise (· ≤ ·)
  mo : SmQ l.2.1
  r0 : 0 ≤ l.2.2.1
  r9 : l.2.2.1 ≤ 9
  ru : (l.2.2.1 = 0 ∧ l.2.2.2 = "") ∨ (0 < l.2.2.1 ∧ l.2.2.2 ∈ [("stay" : Str), "lose", "skip"])
structure GoodStand (nl ns : Nat) (s : Stand) : Prop where
  l0 : 0 ≤ s.1
  l1 : s.1 < nl
  ra : SmQ s.2.1 ∧ 0 < s.2.1
  wy : ∀ w ∈ s.2.2, 0 ≤ w.1 ∧ w.1 < ns ∧ SmQ w.2 ∧ 0 < w.2
  up : s.2.2.Pairwise (fun a b => a.1 < b.1)
  le : sumQ (s.2.2.map (·.2)) ≤ 1
def begins (ss : List Stand) (c : List Int) (i : Int) : Int := (((c.zip ss).filter (fun x => decide (x.2.1 = i))).map (·.1)).sum
def GoodCom (ls : List Line) (ss : List Stand) (c : Com) : Prop :=
  (c.1 = "open" ∧ ∃ r, c.2 = .inl r ∧ r.length = ss.length ∧ (∀ x ∈ r, SmQ x) ∧ (∃ x ∈ r, x ≠ 0) ∧ ((∀ l ∈ ls, l.2.2.1 = 0 ∧ l.2.1 = 0) ∨ ∀ l ∈ ls, 0 < l.2.2.1)) ∨
  (c.1 = "shut" ∧ ∃ n, c.2 = .inr n ∧ n.length = ss.length ∧ (∀ x ∈ n, 0 ≤ x) ∧ 1 ≤ n.sum ∧ n.sum ≤ 8 ∧ (∀ l ∈ ls, l.2.2.2 ≠ "lose") ∧ (∀ s ∈ ss, sumQ (s.2.2.map (·.2)) = 1) ∧ ∀ (i : Nat) (h : i < ls.length), ls[i].2.2.1 = 0 ∨ begins ss n i ≤ ls[i].2.2.1)
structure GoodNet (ls : List Line) (ss : List Stand) (c : Com) : Prop where
  l1 : 1 ≤ ls.length
  l8 : ls.length ≤ 8
  s1 : 1 ≤ ss.length
  s12 : ss.length ≤ 12
  ln : ∀ l ∈ ls, GoodLine l
  st : ∀ s ∈ ss, GoodStand ls.length ss.length s
  us : ∀ i : Nat, i < ls.length → ∃ s ∈ ss, s.1 = (i : Int)
  cm : GoodCom ls ss c
theorem SmQ.sz {q : Rat} (h : SmQ q) : sz q ≤ 10 := sz_le ⟨by have := h.1; have := h.2.1; omega, by have := h.2.2; omega⟩
theorem ask_fraction_s {q : Rat} {k : Bool} (h : SmQ q) (h2 : k = true → 0 < q) : s_ask_fraction q k := by
  obtain ⟨a, b, c⟩ := h
  have d := den_pos q
  have hg : Nat.gcd q.num.toNat ((q.den : Int)).toNat = 1 := by
    have := q.reduced
    rw [Int.toNat_natCast, show q.num.toNat = q.num.natAbs by omega]
    exact this
  unfold s_ask_fraction
  simp only [bd_eq, s_ask_iff, hg]
  refine ⟨fun _ _ => ⟨a, by omega⟩, ?_, ?_⟩
  · simp only [Bool.and_eq_true, decide_eq_true_eq]; omega
  · cases k with
    | false => simp
    | true =>
      have := h2 rfl
      have := num_pos this
      simp only [Bool.or_eq_true, decide_eq_true_eq]; omega
theorem ask_line_s {l : Line} (h : GoodLine l) : s_ask_line l := by
  unfold s_ask_line
  simp only [bd_eq, s_ask_iff]
  have n1 := h.n1
  have n6 := h.n6
  have r0 := h.r0
  have r9 := h.r9
  refine ⟨by simp; omega, sfl_all fun _ x hx => ask_fraction_s (h.sp x hx).1 fun _ => (h.sp x hx).2, sfl_all fun _ p hp => ?_, ask_fraction_s h.mo (fun z => by cases z), by simp; omega, ?_, ?_⟩
  · rw [cut_butlast, cut_tail] at hp
    obtain ⟨h1, h2⟩ := List.of_mem_zip hp
    have m1 : p.1 ∈ l.1 := List.dropLast_subset _ h1
    have m2 : p.2 ∈ l.1 := List.mem_of_mem_drop h2
    refine ⟨?_, ?_⟩
    · have := (h.sp _ m1).1.sz
      have := (h.sp _ m2).1.sz
      unfold SQ; omega
    · obtain ⟨k, hk, e⟩ := List.mem_iff_getElem.mp hp
      rw [List.length_zip, List.length_dropLast, List.length_drop] at hk
      rw [List.getElem_zip, List.getElem_dropLast, List.getElem_drop] at e
      have := List.pairwise_iff_getElem.mp h.up k (1 + k) (by omega) (by omega) (by omega)
      rw [← e]
      simp only [Bool.not_eq_true', decide_eq_false_iff_not]
      exact Rat.not_lt.mpr this
  · intro z
    rw [decide_eq_true_iff] at z
    rcases h.ru with ⟨_, e⟩ | ⟨e, _⟩
    · exact decide_eq_true e
    · omega
  · intro z
    rw [decide_eq_false_iff_not] at z
    rcases h.ru with ⟨e, _⟩ | ⟨_, e⟩
    · exact absurd e z
    · exact decide_eq_true e
theorem tsz_sm {xs : List Rat} (h : ∀ x ∈ xs, SmQ x) : tsz xs ≤ xs.length * 11 + 1 := tsz_le fun x hx => (h x hx).sz
theorem rising_len {n : Nat} : ∀ {xs : List Int} {lo : Int}, (∀ x ∈ xs, lo ≤ x ∧ x < n) → xs.Pairwise (· < ·) → 0 ≤ lo → lo ≤ n → (xs.length : Int) + lo ≤ n
  | [], lo, _, _, _, h => by simpa using h
  | x :: r, lo, h, p, h0, h1 => by
    rw [List.pairwise_cons] at p
    have hx := h x (by simp)
    have := rising_len (xs := r) (lo := x + 1) (fun y hy => ⟨by have := p.1 y hy; omega, (h y (List.mem_cons_of_mem _ hy)).2⟩) p.2 (by omega) (by omega)
    rw [List.length_cons]; omega
theorem ways_len {nl ns : Nat} {s : Stand} (h : GoodStand nl ns s) : s.2.2.length ≤ ns := by
  have := rising_len (n := ns) (xs := s.2.2.map (·.1)) (lo := 0) (fun x hx => by
    obtain ⟨w, hw, rfl⟩ := List.mem_map.mp hx
    have := h.wy w hw
    exact ⟨this.1, this.2.1⟩) (by rw [List.pairwise_map]; exact h.up) (by decide) (by omega)
  rw [List.length_map] at this
  omega
theorem ask_stand_s {nl ns : Nat} {s : Stand} (h : GoodStand nl ns s) (hn : ns ≤ 12) : s_ask_stand s nl ns := by
  have wl := ways_len h
  have ht : tsz (s.2.2.map (·.2)) ≤ s.2.2.length * 11 + 1 := by
    have := tsz_sm (xs := s.2.2.map (·.2)) (fun x hx => by
      obtain ⟨w, hw, rfl⟩ := List.mem_map.mp hx
      exact (h.wy w hw).2.2.1)
    rw [List.length_map] at this
    exact this
  have hz := sz_sumL (s.2.2.map (·.2))
  unfold s_ask_stand
  simp only [bd_eq, s_ask_iff]
  refine ⟨by simp; exact ⟨h.l0, h.l1⟩, ask_fraction_s h.ra.1 fun _ => h.ra.2, ?_, by omega, by omega, by unfold SQ; rw [sz_1]; omega, ?_⟩
  · refine (sfl_of0 (fun k (z : Int) => (k = 0 → z = -1) ∧ ∀ j (hj : j < s.2.2.length), j + 1 = k → z = s.2.2[j].1) s.2.2 (-1) ⟨fun _ => rfl, fun j hj e => by omega⟩ (fun k hk z hz => ?_)).1
    have hw := h.wy _ (List.getElem_mem hk)
    refine ⟨⟨?_, ask_fraction_s hw.2.2.1 fun _ => hw.2.2.2⟩, fun e => by omega, fun j hj e => by
      have : j = k := by omega
      subst this; rfl⟩
    simp only [Bool.and_eq_true, decide_eq_true_eq]
    refine ⟨?_, hw.2.1⟩
    cases k with
    | zero => rw [hz.1 rfl]; have := hw.1; omega
    | succ k =>
      rw [hz.2 k (by omega) rfl]
      exact List.pairwise_iff_getElem.mp h.up k (k + 1) (by omega) hk (by omega)
  · simp only [Bool.not_eq_true', decide_eq_false_iff_not]
    exact Rat.not_lt.mpr h.le
theorem rule_ok {x : Str} (h : x ∈ [("stay" : Str), "lose", "skip"] ∨ x = "") : PyData.strOk x = true := by
  rcases h with h | rfl
  · simp only [List.mem_cons, List.not_mem_nil, or_false] at h
    rcases h with rfl | rfl | rfl <;> decide +kernel
  · decide +kernel
theorem GoodLine.okS {l : Line} (h : GoodLine l) : PyData.strOk l.2.2.2 = true := by
  rcases h.ru with ⟨_, e⟩ | ⟨_, e⟩
  · exact rule_ok (.inr e)
  · exact rule_ok (.inl e)
theorem ok_line {l : Line} (h : PyData.strOk l.2.2.2 = true) {n : Nat} (hn : 3 ≤ n) : okD n (eLine l) = true := by
  obtain ⟨m, rfl⟩ : ∃ m, n = m + 3 := ⟨n - 3, by omega⟩
  have h1 := okD_up (show 2 ≤ m + 2 by omega) ((gL gQ).ok l.1)
  have h2 := okD_up (show 1 ≤ m + 2 by omega) (gQ.ok l.2.1)
  show (okD (m + 2) (eL fq l.1) && (okD (m + 2) (fq l.2.1) && (okD (m + 2) (D.int l.2.2.1) && (okD (m + 2) (D.str l.2.2.2) && true)))) = true
  rw [h1, h2, okD_int]
  simpa [okD] using h
theorem ok_lines {ls : List Line} (h : ∀ l ∈ ls, PyData.strOk l.2.2.2 = true) {n : Nat} (hn : 4 ≤ n) : okD n (eL eLine ls) = true := by
  obtain ⟨m, rfl⟩ : ∃ m, n = m + 1 := ⟨n - 1, by omega⟩
  show (ls.map eLine).all (okD m) = true
  rw [List.all_map, List.all_eq_true]
  exact fun l hl => ok_line (h l hl) (by omega)
theorem okE_lines {ls : List Line} (h : ∀ l ∈ ls, GoodLine l) : OkE (eL eLine) ls := ok_lines (fun l hl => (h l hl).okS) (by decide)
theorem filter_nil {α : Type} {p : α → Bool} {xs : List α} (h : ∀ x ∈ xs, p x = false) : xs.filter p = [] := by
  rw [List.filter_eq_nil_iff]
  intro x hx; rw [h x hx]; simp
theorem good_made {ls : List Line} {ss : List Stand} {c : Com} (h : GoodNet ls ss c) : s_made_net ls ss c := by
  have l1 := h.l1
  have l8 := h.l8
  have s1 := h.s1
  have s12 := h.s12
  unfold s_made_net
  simp only [bd_eq]
  refine ⟨?_, by omega, by omega⟩
  unfold s_ask_net
  simp only [bd_eq, s_ask_iff]
  refine ⟨by simp; omega, sfl_all fun _ l hl => ask_line_s (h.ln l hl), sfl_all fun _ s hs => ask_stand_s (h.st s hs) s12, by omega, by omega, by rw [rangeI_len]; omega, ?_, ?_, ?_, ?_⟩
  · rw [decide_eq_true_iff, filter_nil, List.map_nil]
    intro x hx
    rw [mem_rangeI] at hx
    obtain ⟨s, hs, e⟩ := h.us x.toNat (by omega)
    have : x ∈ ss.map (fun x => x.1) := List.mem_map.mpr ⟨s, hs, by omega⟩
    simpa using this
  · rcases h.cm with ⟨e, r, e2, hl, _⟩ | ⟨e, r, e2, hl, _⟩
    · simp [e, e2, numLen, hl]
    · simp [e, e2, numLen, hl]
  · intro z
    rw [decide_eq_true_iff] at z
    rcases h.cm with ⟨e, r, e2, hl, h1, ⟨x, hx, h2⟩, h3⟩ | ⟨e, r, e2, _⟩
    · rw [e2]
      refine ⟨rfl, ?_⟩
      show s_ask_rates ls r
      unfold s_ask_rates
      simp only [bd_eq, s_ask_iff]
      have hne : ls.map (fun x => x.2.2.1) ≠ [] := by
        intro z
        have := congrArg List.length z
        simp at this; rw [this] at l1; simp at l1
      refine ⟨sfl_all fun _ x hx => ask_fraction_s (h1 x hx) (fun z => by cases z), by omega, ?_, by omega, hne, ?_, ?_⟩
      · rw [Bool.not_eq_true', decide_eq_false_iff_not]
        intro z
        have : x ∈ (r.filter (fun x => !decide (x = 0))).map (fun x => x) := List.mem_map.mpr ⟨x, List.mem_filter.mpr ⟨hx, by simp [h2]⟩, rfl⟩
        rw [z] at this; cases this
      · intro z
        rw [decide_eq_true_iff] at z
        refine ⟨by omega, ?_, rfl, ?_⟩
        · refine okE_lines fun l hl => h.ln l ?_
          obtain ⟨l', hl', rfl⟩ := List.mem_map.mp hl
          exact (List.mem_filter.mp hl').1
        · rw [decide_eq_true_iff, filter_nil, List.map_nil]
          intro l hl
          rcases h3 with h3 | h3
          · simp [(h3 l hl).2]
          · have h4 : l.2.2.1 ≤ maxL (ls.map fun x => x.2.2.1) := le_maxL (List.mem_map.mpr ⟨l, hl, rfl⟩)
            have := h3 l hl
            omega
      · intro z
        rw [decide_eq_false_iff_not] at z
        refine ⟨hne, ?_⟩
        rw [decide_eq_true_iff]
        obtain ⟨l, hl, e4⟩ := List.mem_map.mp (minL_mem hne)
        obtain ⟨l', hl', e5⟩ := List.mem_map.mp (maxL_mem hne)
        rcases h3 with h3 | h3
        · have := h3 l' hl'; omega
        · have := h3 l hl; omega
    · rw [e] at z; exact absurd z (by decide)
  · intro z
    rw [decide_eq_false_iff_not] at z
    rcases h.cm with ⟨e, _⟩ | ⟨e, n, e2, hl, h1, h2, h3, h4, h5, h6⟩
    · exact absurd e z
    · rw [e2]
      refine ⟨rfl, ?_⟩
      show s_ask_counts ls ss n
      unfold s_ask_counts
      simp only [bd_eq, s_ask_iff]
      have hne : n ≠ [] := by intro z; rw [z] at h2; simp at h2
      refine ⟨hne, ?_, by omega, ?_, rfl, ?_, sfl_all fun _ s hs => ⟨?_, ?_, ?_⟩, sfl_all fun _ p hp => ⟨?_, ?_⟩⟩
      · have := h1 _ (minL_mem hne)
        simp only [Bool.and_eq_true, decide_eq_true_eq]; omega
      · refine okE_lines fun l hl => h.ln l ?_
        obtain ⟨l', hl', rfl⟩ := List.mem_map.mp hl
        exact (List.mem_filter.mp hl').1
      · rw [decide_eq_true_iff, filter_nil, List.map_nil]
        intro l hl
        simp [h4 l hl]
      · have := ways_len (h.st s hs); omega
      · have := tsz_sm (xs := s.2.2.map (·.2)) (fun x hx => by
          obtain ⟨w, hw, rfl⟩ := List.mem_map.mp hx
          exact ((h.st s hs).wy w hw).2.2.1)
        rw [List.length_map] at this
        have := ways_len (h.st s hs)
        show tsz (s.2.2.map (·.2)) ≤ _
        omega
      · exact decide_eq_true (h5 s hs)
      · rw [List.length_zip]; omega
      · obtain ⟨k, hk, rfl⟩ := mem_enumI hp
        rcases h6 k hk with q | q
        · simp [q]
        · have : begins ss n k ≤ ls[k].2.2.1 := q
          unfold begins at this
          simp [this]
theorem e_made_net_ {ls : List Line} {ss : List Stand} {c : Com} (h : GoodNet ls ss c) : fn_made_net [eL eLine ls, eL eStand ss, eT2 D.str eNum c] = .ok (eNet ((ls, ss, c) : Net)) .ff .non := by
  rw [e_made_net (good_made h)]
  have : t_made_net ls ss c = (ls, ss, c) := by
    unfold t_made_net
    simp only [bd_eq]
    congr 1
    · exact List.map_id' _
    · congr 1
      exact List.map_id' _
  rw [this]
end Net
namespace Dt
open PySem PySem.Spec PyProof.Rows L2
inductive At (H : Hp) : V → List Nat → V → Prop
  | nil {v : V} : At H v [] v
  | lst {a : Addr} {vs : List V} {k : Nat} {w u : V} {p : List Nat} : H a = some (.lst vs) → vs[k]? = some w → At H w p u → At H (.ref a) (k :: p) u
  | tup {a : Addr} {vs : List V} {k : Nat} {w u : V} {p : List Nat} : H a = some (.tup vs) → vs[k]? = some w → At H w p u → At H (.ref a) (k :: p) u
theorem At.det {H : Hp} {v w w' : V} {p : List Nat} (h : At H v p w) (h' : At H v p w') : w = w' := by
  induction h with
  | nil => cases h'; rfl
  | lst q g t ih =>
    cases h' with
    | lst q' g' t' => rw [q] at q'; injection q' with q'; injection q' with q'; subst q'; rw [g] at g'; injection g' with g'; subst g'; exact ih t'
    | tup q' g' t' => rw [q] at q'; injection q' with q'; cases q'
  | tup q g t ih =>
    cases h' with
    | tup q' g' t' => rw [q] at q'; injection q' with q'; injection q' with q'; subst q'; rw [g] at g'; injection g' with g'; subst g'; exact ih t'
    | lst q' g' t' => rw [q] at q'; injection q' with q'; cases q'
theorem At.snoc {H : Hp} {v w u : V} {a : Addr} {vs : List V} {k : Nat} {p : List Nat} (h : At H v p w) (e : w = .ref a) (q : H a = some (.lst vs) ∨ H a = some (.tup vs)) (g : vs[k]? = some u) : At H v (p ++ [k]) u := by
  induction h with
  | nil => subst e; rcases q with q | q
           · exact .lst q g .nil
           · exact .tup q g .nil
  | lst q' g' t ih => exact .lst q' g' (ih e)
  | tup q' g' t ih => exact .tup q' g' (ih e)
def Mks.get : Mks → Nat → Option Mk
  | .nil, _ => none
  | .cons m _, 0 => some m
  | .cons _ r, k + 1 => Mks.get r k
def subM : Mk → D → List Nat → Option (Mk × D)
  | m, d, [] => some (m, d)
  | .l m, .lst ds, k :: p => (ds[k]?).bind fun d => subM m d p
  | .t ms, .tup ds, k :: p => (ds[k]?).bind fun d => (ms.get k).bind fun m => subM m d p
  | _, _, _ :: _ => none
def setM : D → List Nat → D → D
  | _, [], d => d
  | .lst ds, k :: p, d => .lst (ds.set k (setM (ds.getD k .non) p d))
  | .tup ds, k :: p, d => .tup (ds.set k (setM (ds.getD k .non) p d))
  | x, _ :: _, _ => x
section
variable {K : PySem.W.Frag} {B H : Hp}
theorem Its.get {R : V → D → List Addr → Prop} {vs : List V} {ds : List D} {S : List Addr} (h : Its R vs ds S) : ∀ {k : Nat} {d : D}, ds[k]? = some d → ∃ v T, vs[k]? = some v ∧ R v d T ∧ T.Sublist S := by
  induction h with
  | nil => intro k d e; simp at e
  | cons r t ih =>
    intro k d e
    cases k with
    | zero => simp at e; subst e; exact ⟨_, _, rfl, r, List.sublist_append_left _ _⟩
    | succ k =>
      obtain ⟨v, T, h1, h2, h3⟩ := ih (k := k) (d := d) (by simpa using e)
      exact ⟨v, T, by simpa using h1, h2, h3.trans (List.sublist_append_right _ _)⟩
theorem TrT.len : ∀ {ms : Mks} {vs : List V} {ds : List D} {S : List Addr}, TrT K B H ms vs ds S → vs.length = ds.length
  | .nil, _, _, _, h => by
    unfold TrT at h
    obtain ⟨rfl, rfl, _⟩ := h; rfl
  | .cons m r, _, _, _, h => by
    unfold TrT at h
    obtain ⟨v, vs, d, ds, S1, S2, rfl, rfl, t1, t2, rfl⟩ := h
    rw [List.length_cons, List.length_cons, TrT.len (ms := r) t2]
theorem TrT.get : ∀ {ms : Mks} {vs : List V} {ds : List D} {S : List Addr} {k : Nat} {d : D} {m : Mk}, TrT K B H ms vs ds S → ds[k]? = some d → ms.get k = some m → ∃ v T, vs[k]? = some v ∧ Tr K B H m v d T ∧ T.Sublist S
  | .nil, _, _, _, _, _, _, h, _, g => by cases g
  | .cons m r, _, _, _, 0, _, _, h, e, g => by
    unfold TrT at h
    obtain ⟨v, vs, d, ds, S1, S2, rfl, rfl, t1, t2, rfl⟩ := h
    simp at e; subst e
    injection g with g; subst g
    exact ⟨v, S1, rfl, t1, List.sublist_append_left _ _⟩
  | .cons m r, _, _, _, k + 1, d, m', h, e, g => by
    unfold TrT at h
    obtain ⟨v, vs, d, ds, S1, S2, rfl, rfl, t1, t2, rfl⟩ := h
    obtain ⟨v, T, h1, h2, h3⟩ := TrT.get (k := k) (ms := r) t2 (by simpa using e) g
    exact ⟨v, T, by simpa using h1, h2, h3.trans (List.sublist_append_right _ _)⟩
theorem Tr.at (ex : Ex B H) : ∀ {p : List Nat} {m m' : Mk} {v : V} {d d' : D} {S : List Addr}, Tr K B H m v d S → subM m d p = some (m', d') → ∃ w T, At H v p w ∧ Tr K B H m' w d' T ∧ T.Sublist S
  | [], m, m', v, d, d', S, h, e => by
    have e' : some (m, d) = some (m', d') := by cases m <;> exact e
    injection e' with e'; injection e' with e1 e2; subst e1; subst e2
    exact ⟨v, S, .nil, h, List.Sublist.refl _⟩
  | k :: p, .z, m', v, d, d', S, h, e => by cases d <;> cases e
  | k :: p, .l m, m', v, d, d', S, h, e => by
    unfold Tr at h
    obtain ⟨a, vs, ds, T, rfl, rfl, b, q, i, rfl⟩ := h
    have e' : (ds[k]?).bind (fun d => subM m d p) = some (m', d') := e
    cases g : ds[k]? with
    | none => rw [g] at e'; cases e'
    | some d1 =>
      rw [g] at e'
      obtain ⟨v1, T1, h1, h2, h3⟩ := i.get g
      obtain ⟨w, U, h4, h5, h6⟩ := Tr.at ex (p := p) h2 e'
      exact ⟨w, U, .lst q h1 h4, h5, (h6.trans h3).cons _⟩
  | k :: p, .t ms, m', v, d, d', S, h, e => by
    unfold Tr at h
    obtain ⟨a, vs, ds, rfl, rfl, b, i⟩ := h
    have e' : (ds[k]?).bind (fun d => (ms.get k).bind fun m => subM m d p) = some (m', d') := e
    cases g : ds[k]? with
    | none => rw [g] at e'; cases e'
    | some d1 =>
      rw [g] at e'
      cases g2 : ms.get k with
      | none => rw [g2] at e'; cases e'
      | some m1 =>
        rw [g2] at e'
        obtain ⟨v1, T1, h1, h2, h3⟩ := TrT.get i g g2
        obtain ⟨w, U, h4, h5, h6⟩ := Tr.at ex (p := p) h2 e'
        exact ⟨w, U, .tup (ex _ _ b) h1 h4, h5, h6.trans h3⟩
theorem At.keep {H H' : Hp} {v w : V} {p : List Nat} (ex : Ex B H) (ex' : Ex B H') (h : At H v p w) {m : Mk} {d : D} {S : List Addr} (t : Tr K B H m v d S) (k : ∀ a ∈ S, ∀ o, H a = some o → H' a = some o) {m' : Mk} {d' : D} (e : subM m d p = some (m', d')) : At H' v p w := by
  induction h generalizing m d S with
  | nil => exact .nil
  | @lst a vs j w u p q g t1 ih =>
    cases m with
    | z => cases d <;> cases e
    | l m =>
      unfold Tr at t
      obtain ⟨a', vs', ds, T, e1, rfl, b, q', i, rfl⟩ := t
      injection e1 with e1; subst e1
      rw [q] at q'; injection q' with q'; injection q' with q'; subst q'
      have e' : (ds[j]?).bind (fun d => subM m d p) = some (m', d') := e
      cases g2 : ds[j]? with
      | none => rw [g2] at e'; cases e'
      | some d1 =>
        rw [g2] at e'
        obtain ⟨v1, T1, h1, h2, h3⟩ := i.get g2
        rw [g] at h1; injection h1 with h1; subst h1
        exact .lst (k a (by simp) _ q) g (ih h2 (fun b hb => k b (List.mem_cons_of_mem _ (h3.subset hb))) e')
    | t ms =>
      unfold Tr at t
      obtain ⟨a', vs', ds, e1, rfl, b, i⟩ := t
      injection e1 with e1; subst e1
      have q' := ex _ _ b
      rw [q] at q'; injection q' with q'; cases q'
  | @tup a vs j w u p q g t1 ih =>
    cases m with
    | z => cases d <;> cases e
    | l m =>
      unfold Tr at t
      obtain ⟨a', vs', ds, T, e1, rfl, b, q', i, rfl⟩ := t
      injection e1 with e1; subst e1
      rw [q] at q'; injection q' with q'; cases q'
    | t ms =>
      unfold Tr at t
      obtain ⟨a', vs', ds, e1, rfl, b, i⟩ := t
      injection e1 with e1; subst e1
      have q' := ex _ _ b
      rw [q] at q'; injection q' with q'; injection q' with q'; subst q'
      have e' : (ds[j]?).bind (fun d => (ms.get j).bind fun m => subM m d p) = some (m', d') := e
      cases g2 : ds[j]? with
      | none => rw [g2] at e'; cases e'
      | some d1 =>
        rw [g2] at e'
        cases g3 : ms.get j with
        | none => rw [g3] at e'; cases e'
        | some m1 =>
          rw [g3] at e'
          obtain ⟨v1, T1, h1, h2, h3⟩ := TrT.get i g2 g3
          rw [g] at h1; injection h1 with h1; subst h1
          exact .tup (ex' _ _ b) g (ih h2 (fun b hb => k b (h3.subset hb)) e')
theorem nodup_app {S T S' T' : List Addr} {N : Addr → Prop} (nd : (S ++ T).Nodup) (n : ∀ a ∈ S ++ T, ¬ N a) (h1 : S'.Nodup) (h2 : T'.Nodup) (k1 : ∀ a ∈ S', a ∈ S ∨ N a) (k2 : ∀ a ∈ T', a ∈ T ∨ N a) (one : (∀ a ∈ S', a ∈ S) ∨ ∀ a ∈ T', a ∈ T) : (S' ++ T').Nodup := by
  obtain ⟨_, _, dj⟩ := List.nodup_append.mp nd
  refine List.nodup_append.mpr ⟨h1, h2, fun a ha b hb z => ?_⟩
  subst z
  rcases one with o | o
  · rcases k2 a hb with q | q
    · exact dj a (o a ha) a q rfl
    · exact n a (List.mem_append_left _ (o a ha)) q
  · rcases k1 a ha with q | q
    · exact dj a q a (o a hb) rfl
    · exact n a (List.mem_append_right _ (o a hb)) q
theorem Its.upd {R R' : V → D → List Addr → Prop} {N : Addr → Prop} {a' : Addr} {v1 : V} {d1 d2 : D} {vs : List V} {ds : List D} {S : List Addr} (h : Its R vs ds S) : ∀ {k : Nat}, S.Nodup → (∀ a ∈ S, ¬ N a) → ds[k]? = some d1 → vs[k]? = some v1 → (∀ v d T, R v d T → a' ∉ T → R' v d T) →
    (∀ T, R v1 d1 T → T.Nodup → (∀ a ∈ T, a ∈ S) → a' ∈ T ∧ ∃ T', R' v1 d2 T' ∧ T'.Nodup ∧ ∀ a ∈ T', a ∈ T ∨ N a) → a' ∈ S ∧ ∃ S', Its R' vs (ds.set k d2) S' ∧ S'.Nodup ∧ ∀ a ∈ S', a ∈ S ∨ N a := by
  induction h with
  | nil => intro k nd n e; simp at e
  | @cons v vs d ds S T r t ih =>
    intro k nd n e g kp st
    obtain ⟨n1, n2, dj⟩ := List.nodup_append.mp nd
    cases k with
    | zero =>
      simp at e g; subst e; subst g
      obtain ⟨m1, T', h1, h2, h3⟩ := st S r n1 fun a h => List.mem_append_left _ h
      refine ⟨List.mem_append_left _ m1, T' ++ T, .cons h1 (t.imp fun v d U q s => kp v d U q fun z => dj a' m1 a' (s a' z) rfl), nodup_app nd n h2 n2 h3 (fun a h => .inl h) (.inr fun a h => h), fun a h => ?_⟩
      rcases List.mem_append.mp h with h | h
      · exact (h3 a h).imp (List.mem_append_left _) id
      · exact .inl (List.mem_append_right _ h)
    | succ k =>
      obtain ⟨m1, S', h1, h2, h3⟩ := ih (k := k) n2 (fun a h => n a (List.mem_append_right _ h)) (by simpa using e) (by simpa using g) kp (fun U q nu s => st U q nu fun a h => List.mem_append_right _ (s a h))
      refine ⟨List.mem_append_right _ m1, S ++ S', .cons (kp v d S r fun z => dj a' z a' m1 rfl) h1, nodup_app nd n n1 h2 (fun a h => .inl h) h3 (.inl fun a h => h), fun a h => ?_⟩
      rcases List.mem_append.mp h with h | h
      · exact .inl (List.mem_append_left _ h)
      · exact (h3 a h).imp (List.mem_append_right _) id
theorem TrT.upd {H' : Hp} {N : Addr → Prop} {a' : Addr} {v1 : V} {d1 d2 : D} {m1 : Mk} : ∀ {ms : Mks} {vs : List V} {ds : List D} {S : List Addr} {k : Nat}, TrT K B H ms vs ds S → S.Nodup → (∀ a ∈ S, ¬ N a) → ds[k]? = some d1 → vs[k]? = some v1 → ms.get k = some m1 → (∀ m v d T, Tr K B H m v d T → a' ∉ T → Tr K B H' m v d T) → (∀ m vs ds T, TrT K B H m vs ds T → a' ∉ T → TrT K B H' m vs ds T) →
    (∀ T, Tr K B H m1 v1 d1 T → T.Nodup → (∀ a ∈ T, a ∈ S) → a' ∈ T ∧ ∃ T', Tr K B H' m1 v1 d2 T' ∧ T'.Nodup ∧ ∀ a ∈ T', a ∈ T ∨ N a) → a' ∈ S ∧ ∃ S', TrT K B H' ms vs (ds.set k d2) S' ∧ S'.Nodup ∧ ∀ a ∈ S', a ∈ S ∨ N a
  | .nil, _, _, _, _, h, _, _, _, _, g, _, _, _ => by cases g
  | .cons m r, _, _, _, 0, h, nd, n, e, g, gm, kp, kpt, st => by
    unfold TrT at h
    obtain ⟨v, vs, d, ds, S, T, rfl, rfl, t1, t2, rfl⟩ := h
    obtain ⟨n1, n2, dj⟩ := List.nodup_append.mp nd
    simp at e g; subst e; subst g
    injection gm with gm; subst gm
    obtain ⟨mm, T', h1, h2, h3⟩ := st S t1 n1 fun a h => List.mem_append_left _ h
    refine ⟨List.mem_append_left _ mm, T' ++ T, ?_, nodup_app nd n h2 n2 h3 (fun a h => .inl h) (.inr fun a h => h), fun a h => ?_⟩
    · unfold TrT
      exact ⟨_, _, d2, ds, T', T, rfl, rfl, h1, kpt _ _ _ _ t2 fun z => dj a' mm a' z rfl, rfl⟩
    · rcases List.mem_append.mp h with h | h
      · exact (h3 a h).imp (List.mem_append_left _) id
      · exact .inl (List.mem_append_right _ h)
  | .cons m r, _, _, _, k + 1, h, nd, n, e, g, gm, kp, kpt, st => by
    unfold TrT at h
    obtain ⟨v, vs, d, ds, S, T, rfl, rfl, t1, t2, rfl⟩ := h
    obtain ⟨n1, n2, dj⟩ := List.nodup_append.mp nd
    obtain ⟨mm, S', h1, h2, h3⟩ := TrT.upd (k := k) (ms := r) t2 n2 (fun a h => n a (List.mem_append_right _ h)) (by simpa using e) (by simpa using g) gm kp kpt (fun U q nu s => st U q nu fun a h => List.mem_append_right _ (s a h))
    refine ⟨List.mem_append_right _ mm, S ++ S', ?_, nodup_app nd n n1 h2 (fun a h => .inl h) h3 (.inl fun a h => h), fun a h => ?_⟩
    · unfold TrT
      exact ⟨v, vs, d, ds.set k d2, S, S', rfl, rfl, kp _ _ _ _ t1 fun z => dj a' z a' mm rfl, h1, rfl⟩
    · rcases List.mem_append.mp h with h | h
      · exact .inl (List.mem_append_left _ h)
      · exact (h3 a h).imp (List.mem_append_right _) id
theorem Tr.upd {a' : Addr} {vs2 : List V} {ds2 : List D} {U2 : List Addr} {N : Addr → Prop} {m' : Mk} {ds' : List D} (ex : Ex B H) (hi : Its (Tr K B (L2.upd H a' (.lst vs2)) m') vs2 ds2 U2) (hn : U2.Nodup) (ha : a' ∉ U2) (nN : ¬ N a') :
    ∀ {p : List Nat} {m : Mk} {v : V} {d : D} {S : List Addr}, Tr K B H m v d S → S.Nodup → (∀ a ∈ S, ¬ N a) → subM m d p = some (.l m', .lst ds') → At H v p (.ref a') →
    (∀ vs' U, H a' = some (.lst vs') → Its (Tr K B H m') vs' ds' U → ∀ a ∈ U2, a ∈ U ∨ N a) → a' ∈ S ∧ ∃ S', Tr K B (L2.upd H a' (.lst vs2)) m v (setM d p (.lst ds2)) S' ∧ S'.Nodup ∧ ∀ a ∈ S', a ∈ S ∨ N a := by
  have kp : ∀ m v d T, Tr K B H m v d T → a' ∉ T → Tr K B (L2.upd H a' (.lst vs2)) m v d T := fun m v d T t n => t.keep (Ex.refl _) (fun a h => (t.hid a h).1) (fun a h o q => by
    have na : a ≠ a' := fun z => n (z ▸ h)
    rw [upd_ne na]; exact q)
  have kpt : ∀ m vs ds T, TrT K B H m vs ds T → a' ∉ T → TrT K B (L2.upd H a' (.lst vs2)) m vs ds T := fun m v d T t n => t.keep (Ex.refl _) (fun a h => (t.hid a h).1) (fun a h o q => by
    have na : a ≠ a' := fun z => n (z ▸ h)
    rw [upd_ne na]; exact q)
  intro p
  induction p with
  | nil =>
    intro m v d S h nd n e at' un
    have e' : some (m, d) = some (Mk.l m', D.lst ds') := by cases m <;> exact e
    injection e' with e'; injection e' with e1 e2; subst e1; subst e2
    cases at'
    unfold Tr at h
    obtain ⟨a, vs, ds, T, e1, e2, b, q, i, rfl⟩ := h
    injection e1 with e1; subst e1
    injection e2 with e2; subst e2
    refine ⟨by simp, a' :: U2, ?_, List.nodup_cons.mpr ⟨ha, hn⟩, fun a h => ?_⟩
    · unfold Tr
      exact ⟨a', vs2, ds2, U2, rfl, rfl, b, upd_same, hi, rfl⟩
    · rcases List.mem_cons.mp h with rfl | h
      · exact .inl (by simp)
      · exact (un vs T q i a h).imp (List.mem_cons_of_mem _) id
  | cons k p ih =>
    intro m v d S h nd n e at' un
    cases m with
    | z => cases d <;> cases e
    | l m =>
      unfold Tr at h
      obtain ⟨a, vs, ds, T, rfl, rfl, b, q, i, rfl⟩ := h
      have e' : (ds[k]?).bind (fun d => subM m d p) = some (Mk.l m', D.lst ds') := e
      cases g : ds[k]? with
      | none => rw [g] at e'; cases e'
      | some d1 =>
        rw [g] at e'
        have e2 : subM m d1 p = some (Mk.l m', D.lst ds') := e'
        cases at' with
        | tup q' g' t' => rw [q] at q'; injection q' with q'; cases q'
        | @lst _ vs' _ w _ _ q' g' t' =>
          rw [q] at q'; injection q' with q'; injection q' with q'; subst q'
          obtain ⟨nda, ndT⟩ := List.nodup_cons.mp nd
          obtain ⟨mm, S', h1, h2, h3⟩ := i.upd (k := k) (d2 := setM d1 p (.lst ds2)) ndT (fun a h => n a (List.mem_cons_of_mem _ h)) g g' (kp m) (fun U t nu s => ih t nu (fun a h => n a (List.mem_cons_of_mem _ (s a h))) e2 t' un)
          have na : a ≠ a' := fun z => nda (z ▸ mm)
          refine ⟨List.mem_cons_of_mem _ mm, a :: S', ?_, List.nodup_cons.mpr ⟨fun z => ?_, h2⟩, fun x h => ?_⟩
          · unfold Tr
            refine ⟨a, vs, ds.set k (setM d1 p (.lst ds2)), S', rfl, ?_, b, by rw [upd_ne na]; exact q, h1, rfl⟩
            show D.lst (ds.set k (setM (ds.getD k .non) p (.lst ds2))) = _
            rw [List.getD_eq_getElem?_getD, g]; rfl
          · rcases h3 a z with h | h
            · exact nda h
            · exact n a (by simp) h
          · rcases List.mem_cons.mp h with rfl | h
            · exact .inl (by simp)
            · exact (h3 x h).imp (List.mem_cons_of_mem _) id
    | t ms =>
      unfold Tr at h
      obtain ⟨a, vs, ds, rfl, rfl, b, i⟩ := h
      have q := ex _ _ b
      have e' : (ds[k]?).bind (fun d => (ms.get k).bind fun m => subM m d p) = some (Mk.l m', D.lst ds') := e
      cases g : ds[k]? with
      | none => rw [g] at e'; cases e'
      | some d1 =>
        rw [g] at e'
        cases g2 : ms.get k with
        | none => rw [g2] at e'; cases e'
        | some m1 =>
          rw [g2] at e'
          have e2 : subM m1 d1 p = some (Mk.l m', D.lst ds') := e'
          cases at' with
          | lst q' g' t' => rw [q] at q'; injection q' with q'; cases q'
          | @tup _ vs' _ w _ _ q' g' t' =>
            rw [q] at q'; injection q' with q'; injection q' with q'; subst q'
            obtain ⟨mm, S', h1, h2, h3⟩ := i.upd (k := k) (d2 := setM d1 p (.lst ds2)) nd n g g' g2 kp kpt (fun U t nu s => ih t nu (fun a h => n a (s a h)) e2 t' un)
            refine ⟨mm, S', ?_, h2, h3⟩
            unfold Tr
            refine ⟨a, vs, ds.set k (setM d1 p (.lst ds2)), rfl, ?_, b, h1⟩
            show D.tup (ds.set k (setM (ds.getD k .non) p (.lst ds2))) = _
            rw [List.getD_eq_getElem?_getD, g]; rfl
end
def mHid {α : Type} (i : Nat) (f : M α) : M α := fun ρ => match ρ[i]? with
  | some (.dp m d) => match f (ρ.set i .un) with
    | .ok a ρ1 => .ok a (ρ1.set i (.dp m d))
    | .rz c ρ1 => .rz c ρ1
    | .fail => .fail
  | _ => .fail
section
variable {X : Cx} {W : WX} {F : Fr} {ρ ρ1 : Env} {σ : St} {B H B1 H1 : Hp} {i : Nat} {m : Mk} {d : D} {v : V} {S : List Addr} {K : PySem.W.Frag}
def hidF (K : PySem.W.Frag) (F : Fr) (B H : Hp) (ρ : Env) (σ : St) (i : Nat) : Fr := ⟨B, H, OwS K B H (ρ.set i .un) σ, F.P⟩
structure Hd (K : PySem.W.Frag) (F : Fr) (ρ ρ1 : Env) (σ : St) (B H B1 H1 : Hp) (i : Nat) (m : Mk) (d : D) (v : V) (S : List Addr) : Prop where
  lv : Lv K F (ρ1.set i (.dp m d)) σ B1 H1
  lu : Lv K F (ρ1.set i .un) σ B1 H1
  tr : Tr K B1 H1 m v d S
  kp : ∀ a ∈ S, B1 a = none ∧ ∀ o, H a = some o → H1 a = some o
  no : ∀ a ∈ S, ¬ OwS K B1 H1 (ρ1.set i .un) σ a
  ga : ∀ a ∈ S, F.A a ∨ F.H0 a = none
  nd : S.Nodup
  ap : ∀ a, OwS K B H (ρ.set i .un) σ a ∨ H a = none → a ∉ S ∧ (F.A a ∨ F.H0 a = none)
theorem Lv.hide (L : Lv K F ρ σ B H) : Lv K (hidF K F B H ρ σ i) (ρ.set i .un) σ B H := (L.slot (i := i) (t := .un) rfl (fun d z => nomatch z)).nest
theorem Lv.unhide (L : Lv K F ρ σ B H) (e : ρ[i]? = some (.dp m d)) (q : σ[i]? = some (some v)) (t : Ft K B H v (.dp m d) S) (M : Lv K (hidF K F B H ρ σ i) ρ1 σ B1 H1) : Hd K F ρ ρ1 σ B H B1 H1 i m d v S := by
  obtain ⟨v', S', q', f, g, no, L1⟩ := L.take e rfl
  rw [q] at q'; injection q' with q'; injection q' with q'; subst q'
  have eS : S' = S := f.det t
  subst eS
  have kp : ∀ a ∈ S', B1 a = none ∧ ∀ o, H a = some o → H1 a = some o := fun a ha => ⟨M.hid a (f.hid a ha).1 (f.hid a ha).2 (no a ha), fun o q => M.kept a o q (no a ha)⟩
  have M' : Lv K F ρ1 σ B1 H1 := L1.back M
  have no1 : ∀ a ∈ S', ¬ OwS K B1 H1 (ρ1.set i .un) σ a := fun a ha z => by
    obtain ⟨j, s, u, T, n, e1, q1, f1, m1⟩ := z.un
    rcases M.ofOw ⟨j, s, u, T, e1, q1, f1, m1⟩ with h | h
    · exact no a ha h
    · exact (f.hid a ha).2.ne h
  have f1 : Ft K B1 H1 v (.dp m d) S' := f.keep M.exB (fun a ha => (kp a ha).1) (fun a ha => (kp a ha).2)
  exact ⟨M'.own q f1 g no1 (fun d z => nomatch z), M'.slot rfl (fun d z => nomatch z), f1.1, kp, no1, g, t.2, fun a h => ⟨fun z => h.elim (no a z) (f.hid a z).2.ne, h.elim (fun h => L1.ofOw h) (fun h => .inr (L1.free h))⟩⟩
theorem Post.hid {α : Type} {f : M α} {G : α → Env → Hp → Hp → Prop} (L : Lv X.K F ρ σ B H) (e : ρ[i]? = some (.dp m d)) (q : σ[i]? = some (some v)) (t : Ft X.K B H v (.dp m d) S) (P : Post X W F σ B (mHid i f ρ) G) :
    Post X W (hidF X.K F B H ρ σ i) σ B (f (ρ.set i .un)) (fun a ρ1 B1 H1 => G a (ρ1.set i (.dp m d)) B1 H1 ∧ Ex B B1 ∧ Lv X.K (hidF X.K F B H ρ σ i) ρ1 σ B1 H1 ∧ Hd X.K F ρ ρ1 σ B H B1 H1 i m d v S) := by
  unfold mHid at P
  simp only [e] at P
  cases q2 : f (ρ.set i .un) with
  | ok a ρ1 =>
    simp only [q2] at P
    intro B' H' e' M
    have h := L.unhide e q t M
    exact ⟨P B' H' e' h.lv, e', M, h⟩
  | rz c ρ1 =>
    simp only [q2] at P
    exact fun B' H' e' M => P B' H' e' ((L.slot (i := i) (t := .un) rfl (fun d z => nomatch z)).back M)
  | fail => simp only [q2] at P; exact P.elim
end
section
variable {X : Cx} {W : WX} {e o kx : Expr} {pos : Pos} {i : Nat}
def EPt (X : Cx) (W : WX) (e : Expr) (i : Nat) (f : M (List Nat)) : Prop := ∀ (F : Fr) (ρ : Env) (σ : St) (B H : Hp) (Q : VK), Lv X.K F ρ σ B H →
  Post X W F σ B (f ρ) (fun p ρ' _ H' => ∀ v, (∃ m d mm v0, ρ'[i]? = some (.dp m d) ∧ subM m d p = some mm ∧ σ[i]? = some (some v0) ∧ At H' v0 p v) → Q v H') → we X e σ H Q
def pRoot (i : Nat) : M (List Nat) := fun ρ => match ρ[i]? with
  | some (.dp _ _) => .ok [] ρ
  | _ => .fail
theorem subM_nil {m : Mk} {d : D} : subM m d [] = some (m, d) := by cases m <;> rfl
theorem ep_var (i : Nat) {x : Str} (hN : X.N[i]? = some x := by rfl) (hv : Vis X.env.scope x := by first | exact Or.inl rfl | exact Or.inr (Or.inl rfl) | exact Or.inr (Or.inr rfl)) (hd : (x == ("__debug__" : Str)) = false := by decide)
    (hcd : (x == ("__classdict__" : Str)) = false := by decide) : EPt X W (.Name x pos) i (pRoot i) := by
  intro F ρ σ B H Q L P
  refine PE.we (pe_var hN hv hd hcd) ?_
  unfold pRoot at P
  split at P
  · rename_i m d h
    obtain ⟨v, S, q, f, g⟩ := L.own0 i _ h rfl
    exact ⟨v, q, P B H (Ex.refl _) L v ⟨m, d, (m, d), v, h, subM_nil, q, .nil⟩⟩
  · exact P.elim
def pItem (m : Mk) (d : D) (p : List Nat) (k : D) : Option (List Nat) := match k with
  | .int z => match subM m d p with
    | some (.l _, .lst ds) => (ixN ds.length z).bind fun j => if (subM m d (p ++ [j])).isSome = true then some (p ++ [j]) else none
    | some (.t _, .tup ds) => (ixN ds.length z).bind fun j => if (subM m d (p ++ [j])).isSome = true then some (p ++ [j]) else none
    | _ => none
  | _ => none
def pIx (i : Nat) (fo : M (List Nat)) (fk : M D) : M (List Nat) := M.bind fo fun p => M.bind (mHid i fk) fun k ρ => match ρ[i]? with
  | some (.dp m d) => match pItem m d p k with
    | some p' => .ok p' ρ
    | none => .fail
  | _ => .fail
theorem ixN_lt {n j : Nat} {z : Int} (h : ixN n z = some j) : j < n := by
  unfold ixN at h
  split at h
  · split at h
    · injection h with h; omega
    · cases h
  · split at h
    · injection h with h; omega
    · cases h
theorem ep_ix {fo : M (List Nat)} {fk : M D} (ho : EPt X W o i fo) (hk : EV X W kx fk) (hs : PlainIx kx := by exact fun _ _ => rfl) : EPt X W (.Subscript o kx pos) i (pIx i fo fk) := by
  intro F ρ σ B H Q L P
  refine PE.we (pe_ix ix_seq pe_we pe_we hs) ?_
  refine ho F ρ σ B H _ L ((Post.bind P).imp fun p ρ1 B1 H1 e1 L1 P1 v hv => ?_)
  obtain ⟨m, d, mm, v0, hsl, hsub, hsig, hat⟩ := hv
  obtain ⟨v0', S, q', f, g⟩ := L1.own0 i _ hsl rfl
  rw [hsig] at q'; injection q' with q'; injection q' with q'; subst q'
  refine hk _ _ σ B1 H1 _ L1.hide ((Post.hid L1 hsl hsig f (Post.bind P1)).imp fun k ρ2 B2 H2 e2 M2 hh u fu => ?_)
  obtain ⟨P2, _, M, hd⟩ := hh
  have hl : i < ρ2.length := by
    have h1 := (List.getElem?_eq_some_iff.mp hsl).1
    rw [L1.len] at h1; rw [M.len]; exact h1
  simp only [List.getElem?_set_self hl] at P2
  cases q2 : pItem m d p k with
  | none => simp only [q2] at P2; exact P2.elim
  | some p' =>
    simp only [q2] at P2
    have hat2 : At H2 v0 p v := hat.keep L1.ex (e2.trans hd.lv.ex) f.1 (fun a ha => (hd.kp a ha).2) (m' := mm.1) (d' := mm.2) hsub
    obtain ⟨w, T, h1, h2, h3⟩ := hd.tr.at hd.lv.ex (m' := mm.1) (d' := mm.2) hsub
    obtain rfl := hat2.det h1
    obtain ⟨m', d'⟩ := mm
    unfold pItem at q2
    split at q2
    · rename_i z
      cases fu
      rw [hsub] at q2
      have fin : ∀ {vs : List V} {ds : List D} {a : Addr}, v = .ref a → (H2 a = some (.lst vs) ∨ H2 a = some (.tup vs)) → vs.length = ds.length → (ixN ds.length z).bind (fun j => if (subM m d (p ++ [j])).isSome = true then some (p ++ [j]) else none) = some p' → ∃ u, atI vs z = some u ∧ Q u H2 := by
        intro vs ds a ev hv hlen q3
        cases q4 : ixN ds.length z with
        | none => rw [q4] at q3; cases q3
        | some j =>
          rw [q4] at q3
          have q5 : (if (subM m d (p ++ [j])).isSome = true then some (p ++ [j]) else none) = some p' := q3
          split at q5
          · rename_i hsome
            injection q5 with q5; subst q5
            have hj : j < vs.length := by rw [hlen]; exact ixN_lt q4
            refine ⟨vs[j], by unfold atI; rw [hlen, q4]; exact List.getElem?_eq_getElem hj, P2 B2 H2 (Ex.refl _) hd.lv _ ?_⟩
            obtain ⟨mm', hmm⟩ := Option.isSome_iff_exists.mp hsome
            exact ⟨m, d, mm', v0, List.getElem?_set_self hl, hmm, hsig, hat2.snoc ev hv (List.getElem?_eq_getElem hj)⟩
          · cases q5
      split at q2
      · rename_i m1 ds heq
        injection heq with heq; injection heq with e1 e2; subst e1; subst e2
        unfold Tr at h2
        obtain ⟨a, vs, ds', T', ev, e3, b, hv, it, _⟩ := h2
        injection e3 with e3; subst e3
        obtain ⟨u, hu, hq⟩ := fin ev (.inl hv) it.len q2
        exact .inl ⟨a, vs, z, u, ev, rfl, .inl (.inl hv), hu, hq⟩
      · rename_i m1 ds heq
        injection heq with heq; injection heq with e1 e2; subst e1; subst e2
        unfold Tr at h2
        obtain ⟨a, vs, ds', ev, e3, b, it⟩ := h2
        have hv := hd.lv.ex _ _ b
        injection e3 with e3; subst e3
        obtain ⟨u, hu, hq⟩ := fin ev (.inr hv) it.len q2
        exact .inr (.inl ⟨a, vs, z, u, ev, rfl, .inl (.inl hv), hu, hq⟩)
      · cases q2
    · cases q2
section
variable {K : PySem.W.Frag} {F : Fr} {ρ ρ1 : Env} {σ : St} {B H B1 H1 : Hp} {m m' : Mk} {d : D} {v : V} {S : List Addr}
theorem Hd.place (hd : Hd K F ρ ρ1 σ B H B1 H1 i m d v S) (q : σ[i]? = some (some v)) {p : List Nat} {a' : Addr} {ds' ds2 : List D} {vs2 : List V} {U2 T : List Addr} (hat : At H1 v p (.ref a')) (hsub : subM m d p = some (.l m', .lst ds'))
    (hT : ∀ a ∈ T, a ∉ S ∧ (F.A a ∨ F.H0 a = none) ∧ ¬ OwS K B1 H1 (ρ1.set i .un) σ a) (hi : Its (Tr K B1 (upd H1 a' (.lst vs2)) m') vs2 ds2 U2) (hn : U2.Nodup) (ha : a' ∉ U2)
    (un : ∀ vs' U, H1 a' = some (.lst vs') → Its (Tr K B1 H1 m') vs' ds' U → ∀ a ∈ U2, a ∈ U ∨ a ∈ T) : Lv K F (ρ1.set i (.dp m (setM d p (.lst ds2)))) σ B1 (upd H1 a' (.lst vs2)) := by
  have hin : a' ∈ S := by
    obtain ⟨w, T0, h1, h2, h3⟩ := hd.tr.at hd.lv.ex hsub
    obtain rfl := hat.det h1
    unfold Tr at h2
    obtain ⟨a, vs, ds, U, e1, e2, b, hv, it, rfl⟩ := h2
    injection e1 with e1; subst e1
    exact h3.subset (by simp)
  obtain ⟨mm, S', h1, h2, h3⟩ := hd.tr.upd (N := fun a => a ∈ T) hd.lv.ex hi hn ha (fun z => (hT a' z).1 hin) hd.nd (fun a h z => (hT a z).1 h) hsub hat un
  have na := hd.no a' hin
  have L2 := hd.lu.hidW0 (o := .lst vs2) (hd.kp a' hin).1 (hd.ga a' hin) na
  have L3 := L2.own (i := i) (t := .dp m (setM d p (.lst ds2))) q ⟨h1, h2⟩ (fun a h => (h3 a h).elim (hd.ga a) fun z => (hT a z).2.1) (fun a h z => by
    rw [List.set_set] at z
    have z' := z.chg hd.lu na
    rcases h3 a h with h | h
    · exact hd.no a h z'
    · exact (hT a h).2.2 z') (fun d z => nomatch z)
  rw [List.set_set] at L3
  exact L3
theorem Hd.node (hd : Hd K F ρ ρ1 σ B H B1 H1 i m d v S) {p : List Nat} {w : V} {ds' : List D} (hat : At H1 v p w) (hsub : subM m d p = some (.l m', .lst ds')) :
    ∃ a vs U, w = .ref a ∧ H1 a = some (.lst vs) ∧ B1 a = none ∧ Its (Tr K B1 H1 m') vs ds' U ∧ (a :: U).Nodup ∧ ∀ x ∈ a :: U, x ∈ S := by
  obtain ⟨w', T0, h1, h2, h3⟩ := hd.tr.at hd.lv.ex hsub
  obtain rfl := hat.det h1
  unfold Tr at h2
  obtain ⟨a, vs, ds, U, e1, e2, b, hv, it, rfl⟩ := h2
  injection e2 with e2; subst e2
  exact ⟨a, vs, U, e1, hv, b, it, h3.nodup hd.nd, fun x hx => h3.subset hx⟩
end
end
end Dt
namespace Dt
open PySem PySem.Spec PyProof.Rows L2
def lookK {α : Type} : List Int → List α → Int → Option α
  | k :: ks, x :: xs, z => if k = z then some x else lookK ks xs z
  | _, _, _ => none
def putKs (ks : List Int) (z : Int) : List Int := if z ∈ ks then ks else ks ++ [z]
def putVs {α : Type} (ks : List Int) (xs : List α) (z : Int) (v : α) : List α := if z ∈ ks then List.zipWith (fun k x => if k = z then v else x) ks xs else xs ++ [v]
section
variable {K : PySem.W.Frag} {B H : Hp}
theorem dkv_cons {k : Int} {ks : List Int} {x : V} {xs : List V} : dkv (k :: ks) (x :: xs) = (Sum.inl k, x) :: dkv ks xs := rfl
theorem val_dkv : ∀ (ks : List Int) (xs : List V) (z : Int), valV (dkv ks xs) (Sum.inl z) = lookK ks xs z
  | [], _, _ => rfl
  | _ :: _, [], _ => rfl
  | k :: ks, x :: xs, z => by
    rw [dkv_cons]
    unfold lookK
    by_cases h : k = z
    · subst h; rw [valV_pos rfl, if_pos rfl]
    · rw [valV_neg (fun e => h (Sum.inl.inj e)), if_neg h, val_dkv ks xs z]
theorem look_mem {α : Type} : ∀ {ks : List Int} {xs : List α} {z : Int}, ks.length = xs.length → (lookK ks xs z).isSome = decide (z ∈ ks)
  | [], [], _, _ => rfl
  | [], _ :: _, _, h => by cases h
  | _ :: _, [], _, h => by cases h
  | k :: ks, x :: xs, z, h => by
    unfold lookK
    by_cases e : k = z
    · subst e; rw [if_pos rfl]; simp
    · rw [if_neg e, look_mem (by simpa using h)]
      simp [Ne.symm e]
theorem any_dkv : ∀ (ks : List Int) (xs : List V) (z : Int), ks.length = xs.length → ((dkv ks xs).any fun kv => decide (kv.1 = Sum.inl z)) = decide (z ∈ ks) := fun ks xs z h => by
  rw [valV_any, val_dkv, look_mem h]
theorem map_dkv (z : Int) (v : V) : ∀ (ks : List Int) (xs : List V), (dkv ks xs).map (fun kv => if kv.1 = Sum.inl z then (kv.1, v) else kv) = dkv ks (List.zipWith (fun k x => if k = z then v else x) ks xs)
  | [], _ => rfl
  | _ :: _, [] => rfl
  | k :: ks, x :: xs => by
    rw [dkv_cons, List.map_cons, List.zipWith_cons_cons, dkv_cons, map_dkv z v ks xs]
    by_cases h : k = z
    · subst h; simp
    · rw [if_neg (show ¬ ((Sum.inl k : L2.Key) = Sum.inl z) from fun e => h (Sum.inl.inj e)), if_neg h]
theorem dkv_app {z : Int} {v : V} : ∀ {ks : List Int} {xs : List V}, ks.length = xs.length → dkv ks xs ++ [(Sum.inl z, v)] = dkv (ks ++ [z]) (xs ++ [v])
  | [], [], _ => rfl
  | [], _ :: _, h => by cases h
  | _ :: _, [], h => by cases h
  | k :: ks, x :: xs, h => by
    rw [dkv_cons, List.cons_append, dkv_app (by simpa using h)]; rfl
theorem put_dkv {ks : List Int} {xs : List V} {z : Int} {v : V} (h : ks.length = xs.length) : putK (dkv ks xs) (Sum.inl z) v = dkv (putKs ks z) (putVs ks xs z v) := by
  unfold putK putKs putVs
  rw [any_dkv ks xs z h]
  by_cases m : z ∈ ks
  · rw [if_pos (decide_eq_true m), if_pos m, if_pos m, map_dkv]
  · rw [if_neg (by simpa using m), if_neg m, if_neg m, dkv_app h]
theorem put_len {α : Type} {ks : List Int} {xs : List α} {z : Int} {v : α} (h : ks.length = xs.length) : (putKs ks z).length = (putVs ks xs z v).length := by
  unfold putKs putVs
  split
  · rw [List.length_zipWith, h, Nat.min_self]
  · rw [List.length_append, List.length_append, h]; rfl
theorem dkv_len {ks : List Int} {xs : List V} (h : ks.length = xs.length) : (dkv ks xs).length = ks.length := by
  unfold dkv; rw [List.length_zipWith, h, Nat.min_self]
theorem dkv_keys : ∀ {ks : List Int} {xs : List V}, ks.length = xs.length → (dkv ks xs).map (fun kv => kV kv.1) = ks.map V.int
  | [], [], _ => rfl
  | [], _ :: _, h => by cases h
  | _ :: _, [], h => by cases h
  | k :: ks, x :: xs, h => by rw [dkv_cons, List.map_cons, dkv_keys (by simpa using h)]; rfl
theorem Fzs.look : ∀ {ks : List Int} {vs : List V} {ds : List D} {z : Int} {d : D}, Fzs K B vs ds → lookK ks ds z = some d → ∃ v, lookK ks vs z = some v ∧ Fz K B v d
  | [], _, _, _, _, _, h => by cases h
  | _ :: _, _, _, _, _, .nil, h => by cases h
  | k :: ks, _, _, z, d, .cons f fs, h => by
    unfold lookK at h ⊢
    split at h
    · injection h with h; subst h; exact ⟨_, by rw [if_pos (by assumption)], f⟩
    · rename_i n
      obtain ⟨v, h1, h2⟩ := Fzs.look fs h
      exact ⟨v, by rw [if_neg n]; exact h1, h2⟩
theorem Fzs.zipPut {z : Int} {v : V} {d : D} (f : Fz K B v d) : ∀ {ks : List Int} {vs : List V} {ds : List D}, Fzs K B vs ds → Fzs K B (List.zipWith (fun k x => if k = z then v else x) ks vs) (List.zipWith (fun k x => if k = z then d else x) ks ds)
  | [], _, _, _ => by simp; exact .nil
  | _ :: _, _, _, .nil => by simp; exact .nil
  | k :: ks, _, _, .cons h hs => by
    rw [List.zipWith_cons_cons, List.zipWith_cons_cons]
    refine .cons ?_ (Fzs.zipPut f hs)
    split
    · exact f
    · exact h
theorem Fzs.put {ks : List Int} {vs : List V} {ds : List D} {z : Int} {v : V} {d : D} (hs : Fzs K B vs ds) (f : Fz K B v d) : Fzs K B (putVs ks vs z v) (putVs ks ds z d) := by
  unfold putVs
  split
  · exact Fzs.zipPut f hs
  · exact hs.append (.cons f .nil)
theorem Lv.contD {F : Fr} {ρ : Env} {σ : St} {i : Nat} {ks : List Int} {ds : List D} {v : V} (L : Lv K F ρ σ B H) (h : contR ρ[i]? = some (.dic ks ds)) (ev : σ[i]? = some (some v)) : ∃ a vs, v = .ref a ∧ H a = some (.dK (dkv ks vs)) ∧ ks.length = vs.length ∧ Fzs K B vs ds := by
  have own : ∀ {s : Slot}, ρ[i]? = some s → flat s = true → s.dat = .dic ks ds → ∃ a vs, v = .ref a ∧ H a = some (.dK (dkv ks vs)) ∧ ks.length = vs.length ∧ Fzs K B vs ds := by
    intro s q ho hd
    obtain ⟨a, e1, w, g⟩ := L.ow i s q ho
    rw [ev] at e1; injection e1 with e1; injection e1 with e1; subst e1
    rw [hd] at w
    obtain ⟨n, vs, h1, h2, fs⟩ := w
    exact ⟨a, vs, rfl, h1, h2, fs⟩
  cases q : ρ[i]? with
  | none => rw [q] at h; cases h
  | some s =>
    rw [q] at h
    cases s with
    | un => cases h
    | dp _ _ => cases h
    | ow d' => injection h with h; exact own q rfl h
    | io d' => injection h with h; exact own q rfl h
    | fz d' =>
      injection h with h; subst h
      obtain ⟨v', e1, f⟩ := L.fz i _ q
      rw [ev] at e1; injection e1 with e1; injection e1 with e1; subst e1
      cases f with
      | dic h1 l fs => exact ⟨_, _, rfl, L.ex _ _ h1, l, fs⟩
end
section
variable {X : Cx} {W : WX} {e a b kx : Expr} {pos : Pos} {i : Nat} {x : Str} {px : Pos} {K : PySem.W.Frag}
def mDNew : M (D × Ob) := M.pure (.dic [] [], .tt)
theorem eo_dnew : EO X W (.Dict [] [] pos) mDNew := by
  intro F ρ σ B H Q L P
  refine PE.we pe_dnewK fun p hp => ?_
  exact P B _ (Ex.refl _) (L.allocO hp) _ ⟨p, rfl, ⟨L.ex.nn hp, [], upd_same, rfl, .nil⟩, .inr (L.free hp), fun h => (L.hidOw (h.chg L fun z => (L.hidOw z).2.ne hp)).2.ne hp⟩
def mDPut (i : Nat) (fe fk : M D) : M Fl := M.bind fe fun d => M.bind (chk i) fun _ => M.bind fk fun k ρ => match ρ[i]?, k with
  | some (.ow (.dic ks ds)), .int z => if ks.length < 10000 then .ok .nx (ρ.set i (.ow (.dic (putKs ks z) (putVs ks ds z d)))) else .fail
  | _, _ => .fail
theorem sv_dput {pt : Pos} {fe fk : M D} (hu : X.A.units + 64 < cLine) (he : EV X W e fe) (hk : EV X W kx fk) (hN : X.N[i]? = some x := by rfl) (hv : Vis X.env.scope x := by first | exact Or.inl rfl | exact Or.inr (Or.inl rfl) | exact Or.inr (Or.inr rfl)) (hd : (x == ("__debug__" : Str)) = false := by decide)
    (hcd : (x == ("__classdict__" : Str)) = false := by decide) (hs : swapsWith e (some (.Subscript (.Name x px) kx pt)) pos.line X.env = pure false := by rfl) : SV X W (.Assign [.Subscript (.Name x px) kx pt] e pos) (mDPut i fe fk) := by
  intro F ρ σ B H N L P
  refine PS.ws (ps_dput (by omega) (pe_var hN hv hd hcd) pe_we pe_we hs) ?_
  refine he F ρ σ B H _ L ((PostS.bind P).imp fun d ρ1 B1 H1 e1 L1 P1 v fv => ?_)
  have P1' : PostS X W F B1 ((M.bind (chk i) fun _ => M.bind fk fun k ρ => match ρ[i]?, k with
    | some (.ow (.dic ks ds)), .int z => if ks.length < 10000 then .ok .nx (ρ.set i (.ow (.dic (putKs ks z) (putVs ks ds z d)))) else .fail
    | _, _ => Rs.fail) ρ1) N := P1
  have hne : chk i ρ1 ≠ .fail := fun z => by unfold M.bind at P1'; simp only [z] at P1'; exact P1'.elim
  obtain ⟨hck, vo, ev⟩ := L1.chk (α := Unit) hne
  unfold M.bind at P1'
  simp only [hck] at P1'
  have P2 := PostS.bind (σ := σ) P1'
  refine ⟨vo, ev, hk F ρ1 σ B1 H1 _ L1 (P2.imp fun k ρ2 B2 H2 e2 L2 P3 u fu => ?_)⟩
  split at P3
  · rename_i ks ds z q
    split at P3
    · rename_i hlen
      cases fu
      obtain ⟨a, e3, w, g⟩ := L2.ow i _ q rfl
      rw [ev] at e3; injection e3 with e3; injection e3 with e3; subst e3
      obtain ⟨hb, vs, h1, h2, fs⟩ := w
      refine ⟨a, _, rfl, DPut.k (k := Sum.inl z) h1 (by rw [dkv_len h2]; exact lt_line hlen), P3 σ B2 _ (Ex.refl _) ?_⟩
      rw [put_dkv h2]
      exact L2.write q rfl ev (.inl ⟨_, rfl, _, rfl⟩) ⟨hb, putVs ks vs z v, upd_same, put_len h2, fs.put (fv.mono e2)⟩
    · exact P3.elim
  · exact P3.elim
def dGetK : D → D → Option D
  | .dic ks ds, .int z => lookK ks ds z
  | _, _ => none
def mDGet (i : Nat) (fk : M D) : M D := M.bind (chk i) fun _ => M.bind fk fun k ρ => match (contR ρ[i]?).bind fun d => dGetK d k with
  | some z => .ok z ρ
  | none => .fail
theorem ev_dget {fk : M D} (hu : X.A.units + 64 < cLine) (hk : EV X W kx fk) (hN : X.N[i]? = some x := by rfl) (hv : Vis X.env.scope x := by first | exact Or.inl rfl | exact Or.inr (Or.inl rfl) | exact Or.inr (Or.inr rfl)) (hd : (x == ("__debug__" : Str)) = false := by decide)
    (hcd : (x == ("__classdict__" : Str)) = false := by decide) (hs : NoSl kx := by exact fun _ _ => rfl) : EV X W (.Subscript (.Name x px) kx pos) (mDGet i fk) := by
  intro F ρ σ B H Q L P
  refine PE.we (pe_dget (by omega) (pe_var hN hv hd hcd) pe_we hs) ?_
  have P0 : Post X W F σ B ((M.bind (chk i) fun _ => M.bind fk fun k ρ => match (contR ρ[i]?).bind fun d => dGetK d k with
    | some z => .ok z ρ
    | none => Rs.fail) ρ) (fun d _ B' H' => ∀ v, Fz X.K B' v d → Q v H') := P
  have hne : chk i ρ ≠ .fail := fun z => by unfold M.bind at P0; simp only [z] at P0; exact P0.elim
  obtain ⟨hck, vo, ev⟩ := L.chk (α := Unit) hne
  unfold M.bind at P0
  simp only [hck] at P0
  refine ⟨vo, ev, hk F ρ σ B H _ L ((Post.bind P0).imp fun k ρ2 B2 H2 e2 L2 P3 u fu => ?_)⟩
  cases q : contR ρ2[i]? with
  | none => simp only [q, Option.bind_none] at P3; exact P3.elim
  | some d =>
    simp only [q, Option.bind_some] at P3
    cases q2 : dGetK d k with
    | none => simp only [q2] at P3; exact P3.elim
    | some z =>
      simp only [q2] at P3
      unfold dGetK at q2
      split at q2
      · obtain ⟨a, vs, rfl, h1, h2, fs⟩ := L2.contD q ev
        cases fu
        rename_i y
        obtain ⟨v, h3, h4⟩ := fs.look q2
        have g := DGet.k (H := H2) (a := a) (k := Sum.inl y) h1
        rw [val_dkv, h3] at g
        exact ⟨a, v, rfl, g, P3 B2 H2 (Ex.refl _) L2 v h4⟩
      · cases q2
def mDIn (neg : Bool) (i : Nat) (fy : M D) : M D := M.bind fy fun y => M.bind (chk i) fun _ ρ => match contR ρ[i]?, y with
  | some (.dic ks _), .int z => .ok (.bl (if neg then !decide (z ∈ ks) else decide (z ∈ ks))) ρ
  | _, _ => .fail
theorem din_go {F : Fr} {ρ : Env} {σ : St} {B H : Hp} {Q : VK} {fy : M D} {neg : Bool} (hy : EV X W e fy) (L : Lv X.K F ρ σ B H) (P : Post X W F σ B (mDIn neg i fy ρ) (fun d _ B' H' => ∀ v, Fz X.K B' v d → Q v H')) :
    we X e σ H fun y H1 => tVar i σ H1 fun xx H2 => ∃ a o, xx = .ref a ∧ DGet H2 a y o ∧ Q (.bl (if neg then !o.isSome else o.isSome)) H2 := by
  refine hy F ρ σ B H _ L ((Post.bind P).imp fun y ρ1 B1 H1 e1 L1 P1 u fu => ?_)
  have P0 : Post X W F σ B1 ((M.bind (chk i) fun _ ρ => match contR ρ[i]?, y with
    | some (.dic ks _), .int z => .ok (.bl (if neg then !decide (z ∈ ks) else decide (z ∈ ks))) ρ
    | _, _ => Rs.fail) ρ1) (fun d _ B' H' => ∀ v, Fz X.K B' v d → Q v H') := P1
  have hne : chk i ρ1 ≠ .fail := fun z => by unfold M.bind at P0; simp only [z] at P0; exact P0.elim
  obtain ⟨hck, vo, ev⟩ := L1.chk (α := Unit) hne
  unfold M.bind at P0
  simp only [hck] at P0
  refine ⟨vo, ev, ?_⟩
  split at P0
  · rename_i ks ds z q
    cases fu
    obtain ⟨a, vs, rfl, h1, h2, fs⟩ := L1.contD q ev
    have g := DGet.k (H := H1) (a := a) (k := Sum.inl z) h1
    rw [val_dkv] at g
    refine ⟨a, _, rfl, g, ?_⟩
    rw [look_mem h2]
    exact P0 B1 H1 (Ex.refl _) L1 _ (.bl _)
  · exact P0.elim
theorem et_dnotin {fy : M D} (hu : X.A.units + 64 < cLine) (hy : EV X W e fy) (hN : X.N[i]? = some x := by rfl) (hv : Vis X.env.scope x := by first | exact Or.inl rfl | exact Or.inr (Or.inl rfl) | exact Or.inr (Or.inr rfl)) (hd : (x == ("__debug__" : Str)) = false := by decide)
    (hcd : (x == ("__classdict__" : Str)) = false := by decide) (hm : behindInMarks .NotIn (.Name x px) = false := by rfl) : ET X W (.Compare e [.NotIn] [.Name x px] pos) (mTest (mDIn true i fy)) := by
  intro F ρ σ B H Q L P
  refine PT.wt (pt_cmp (pc_dnotin (by omega) pe_we (pe_var hN hv hd hcd)) hm) ?_
  refine din_go (Q := fun v H1 => ∃ k, v = .bl k ∧ Q k H1) hy L ((Post.bind P).imp fun d ρ1 B1 H1 e1 L1 P1 v fv => ?_)
  obtain ⟨k, hk, g⟩ := P1.opt
  exact ⟨k, fv.bl_inv hk, g B1 H1 (Ex.refl _) L1⟩
def mListD (f : M (List D)) : M (D × Ob) := M.bind f fun ds => M.opt (match ds with
  | [.dic ks _] => some (.lst (ks.map D.int), .tt)
  | _ => none)
theorem eo_listD {p : Pos} {f : M (List D)} (hc : X.calm = true) (hm : X.mg "list" = none) (ha : EA X W [a] f) (hg : Gl X "list" := by rfl) (he : starEach (a :: []) X.env = (false, eval a X.env) :: starEach [] X.env := by rfl) : EO X W (.Call (.Name "list" p) [a] [] pos) (mListD f) := by
  intro F ρ σ B H Q L P
  refine PE.we (pe_callTy (call_list_dK hc) hg hm (by decide +kernel) pa_wa (by decide) (by decide) he) ?_
  refine ha F ρ σ B H _ L ((Post.bind P).imp fun ds ρ1 B1 H1 e1 L1 P1 vs fs => ?_)
  obtain ⟨d, hd, k⟩ := P1.opt
  split at hd
  · injection hd with hd; subst hd
    cases fs with
    | cons f fs =>
      cases fs
      cases f with
      | @dic q _ xs ds h1 l fs =>
        refine ⟨q, _, rfl, L1.ex _ _ h1, fun r hr => ?_⟩
        rw [dkv_keys l]
        obtain ⟨L2, v2⟩ := L1.newL hr (Fzs.of_ints _)
        exact k B1 _ (Ex.refl _) L2 _ v2
  · cases hd
def mSortI (f : M (List D)) : M (D × Ob) := M.bind f fun ds => M.opt (match ds with
  | [.lst xs] => (asInts xs).map fun ns => (.lst ((PySem.W.sortI ns).map D.int), .tt)
  | _ => none)
theorem eo_sortI {p : Pos} {f : M (List D)} (hm : X.mg "sorted" = none) (ha : EA X W [a] f) (hg : Gl X "sorted" := by rfl) (he : starEach (a :: []) X.env = (false, eval a X.env) :: starEach [] X.env := by rfl) : EO X W (.Call (.Name "sorted" p) [a] [] pos) (mSortI f) := by
  intro F ρ σ B H Q L P
  refine PE.we (pe_callB cr_sortedI hg hm (by decide +kernel) pa_wa (by decide) (by decide) he) ?_
  refine ha F ρ σ B H _ L ((Post.bind P).imp fun ds ρ1 B1 H1 e1 L1 P1 vs fs => ?_)
  obtain ⟨d, hd, k⟩ := P1.opt
  split at hd
  · rename_i xs
    cases q : asInts xs with
    | none => rw [q] at hd; cases hd
    | some ns =>
      rw [q] at hd
      injection hd with hd; subst hd
      cases fs with
      | cons f fs =>
        cases fs
        obtain ⟨p, rfl, h1⟩ := fz_ints f q
        refine ⟨p, ns, rfl, .inl (.inl (L1.ex _ _ h1)), fun ns' r hp hs hr => ?_⟩
        rw [PySem.W.eq_sortI hp hs]
        obtain ⟨L2, v2⟩ := L1.newL hr (Fzs.of_ints (PySem.W.sortI ns))
        exact k B1 _ (Ex.refl _) L2 _ v2
  · cases hd
end
def lkA {α : Type} : List (Int × α) → Int → Option α
  | [], _ => none
  | p :: r, z => if p.1 = z then some p.2 else lkA r z
def hasA {α : Type} (l : List (Int × α)) (z : Int) : Bool := decide (z ∈ l.map (·.1))
def getA {α : Type} [Inhabited α] (l : List (Int × α)) (z : Int) : α := (lkA l z).getD default
def putA {α : Type} (l : List (Int × α)) (z : Int) (v : α) : List (Int × α) := if z ∈ l.map (·.1) then l.map (fun p => if p.1 = z then (p.1, v) else p) else l ++ [(z, v)]
def keysA {α : Type} (l : List (Int × α)) : List Int := l.map (·.1)
def eDI {α : Type} (F : α → D) (l : List (Int × α)) : D := .dic (l.map (·.1)) (l.map fun p => F p.2)
section
variable {α : Type} {F : α → D} {l : List (Int × α)} {z : Int} {v : α} {ρ ρ1 ρ2 ρ3 : Env} {i : Nat} {fe fk : M D} {fs : M (List D)}
theorem look_map : ∀ (l : List (Int × α)) (z : Int), lookK (l.map (·.1)) (l.map fun p => F p.2) z = (lkA l z).map F
  | [], _ => rfl
  | p :: r, z => by
    rw [List.map_cons, List.map_cons]
    unfold lookK lkA
    by_cases h : p.1 = z
    · rw [if_pos h, if_pos h]; rfl
    · rw [if_neg h, if_neg h, look_map r z]
theorem lkA_mem : ∀ {l : List (Int × α)} {z : Int}, z ∈ l.map (·.1) → ∃ v, lkA l z = some v
  | [], _, h => by simp at h
  | p :: r, z, h => by
    unfold lkA
    by_cases e : p.1 = z
    · exact ⟨p.2, if_pos e⟩
    · rw [List.map_cons, List.mem_cons] at h
      rw [if_neg e]
      exact lkA_mem (h.resolve_left (Ne.symm e))
theorem put_map : D.dic (putKs (l.map (·.1)) z) (putVs (l.map (·.1)) (l.map fun p => F p.2) z (F v)) = eDI F (putA l z v) := by
  unfold putKs putVs putA eDI
  by_cases h : z ∈ l.map (·.1)
  · rw [if_pos h, if_pos h, if_pos h]
    have e1 : (l.map fun p => if p.1 = z then (p.1, v) else p).map (·.1) = l.map (·.1) := by
      rw [List.map_map]; apply List.map_congr_left; intro p _; simp only [Function.comp]; split <;> rfl
    have e2 : ∀ l : List (Int × α), List.zipWith (fun k x => if k = z then F v else x) (l.map (·.1)) (l.map fun p => F p.2) = (l.map fun p => if p.1 = z then (p.1, v) else p).map fun p => F p.2 := by
      intro l
      induction l with
      | nil => rfl
      | cons p r ih =>
        simp only [List.map_cons, List.zipWith_cons_cons, ih]
        congr 1
        split <;> rfl
    rw [e1, e2]
  · rw [if_neg h, if_neg h, if_neg h, List.map_append, List.map_append]; rfl
theorem chk_ow {d : D} (h : ρ[i]? = some (.ow d)) : chk i ρ = .ok () ρ := by unfold chk; rw [h]
theorem chk_fz {d : D} (h : ρ[i]? = some (.fz d)) : chk i ρ = .ok () ρ := by unfold chk; rw [h]
theorem t_dnew : mDNew ρ = .ok (eDI F [], .tt) ρ := rfl
theorem sDPut (h1 : fe ρ = .ok (F v) ρ1) (h2 : fk ρ1 = .ok (.int z) ρ2) (hs : ∃ d, ρ1[i]? = some (.ow d)) (hs2 : ρ2[i]? = some (.ow (eDI F l))) (hl : l.length < 10000) (h3 : ρ2.set i (.ow (eDI F (putA l z v))) = ρ3) : mDPut i fe fk ρ = .ok .nx ρ3 := by
  unfold mDPut M.bind
  obtain ⟨d, hs⟩ := hs
  rw [h1]; dsimp only; rw [chk_ow hs]; dsimp only; rw [h2]; dsimp only; rw [hs2]
  unfold eDI at *
  dsimp only
  rw [if_pos (by rw [List.length_map]; exact hl), ← h3, put_map]; rfl
theorem dGetK_of [Inhabited α] (h : z ∈ keysA l) : dGetK (eDI F l) (.int z) = some (F (getA l z)) := by
  show lookK (l.map (·.1)) (l.map fun p => F p.2) z = _
  rw [look_map]
  obtain ⟨v, e⟩ := lkA_mem h
  unfold getA
  rw [e]; rfl
theorem t_dget [Inhabited α] (h2 : fk ρ = .ok (.int z) ρ1) (hs : chk i ρ = .ok () ρ) (hs2 : contR ρ1[i]? = some (eDI F l)) (h : z ∈ keysA l) : mDGet i fk ρ = .ok (F (getA l z)) ρ1 := by
  unfold mDGet M.bind
  rw [hs]; dsimp only; rw [h2]; dsimp only; rw [hs2]; dsimp only [Option.bind_some]; rw [dGetK_of h]
theorem t_dnotin (h2 : fk ρ = .ok (.int z) ρ1) (hs : chk i ρ1 = .ok () ρ1) (hs2 : contR ρ1[i]? = some (eDI F l)) : mDIn true i fk ρ = .ok (.bl (!hasA l z)) ρ1 := by
  unfold mDIn M.bind
  rw [h2]; dsimp only; rw [hs]; dsimp only; rw [hs2]; rfl
theorem t_listD (h : fs ρ = .ok [eDI F l] ρ1) : mListD fs ρ = .ok (eL D.int (keysA l), .tt) ρ1 := by
  unfold mListD M.bind; rw [h]; rfl
theorem t_sortI {ns : List Int} (h : fs ρ = .ok [eL D.int ns] ρ1) : mSortI fs ρ = .ok (eL D.int (PySem.W.sortI ns), .tt) ρ1 := by
  unfold mSortI M.bind; rw [h]; unfold eL; dsimp only; rw [asInts_map]; rfl
end
end Dt
namespace Dt
open PySem PySem.Spec PyProof.Rows L2
section
variable {X : Cx} {W : WX} {e o kx : Expr} {es : List Expr} {pos : Pos} {i : Nat} {x : Str} {px : Pos} {K : PySem.W.Frag}
def mRetIo (i : Nat) : M (D × Ob) := fun ρ => match ρ[i]? with
  | some (.io d) => .ok (d, .al) ρ
  | _ => .fail
def gSub (i : Nat) (fk : M D) (d : D) (ρ : Env) : Option Env := match chk i ρ with
  | .ok _ _ => match fk ρ with
    | .ok (.int z) ρ' => match ρ'[i]? with
      | some (.ow (.lst ds)) => (ixN ds.length z).map fun j => ρ'.set i (.ow (.lst (ds.set j d)))
      | some (.io (.lst ds)) => (ixN ds.length z).map fun j => ρ'.set i (.io (.lst (ds.set j d)))
      | _ => none
    | _ => none
  | _ => none
end
section
variable {ρ ρ1 ρ2 ρ3 : Env} {i n : Nat} {α : Type} {F : α → D} {xs : List α} {v v2 : α} {z z2 : Int} {fk fk2 : M D} {d : D}
theorem setI_len {xs : List α} {z : Int} {v : α} : (setI xs z v).length = xs.length := by unfold setI; rw [List.length_set]
end
section
variable {K : PySem.W.Frag} {B H : Hp}
theorem its_z : ∀ {vs : List V} {ds : List D} {U : List Addr}, Its (Tr K B H .z) vs ds U → Fzs K B vs ds ∧ U = [] := by
  intro vs ds U h
  induction h with
  | nil => exact ⟨.nil, rfl⟩
  | cons r t ih =>
    unfold Tr at r
    obtain ⟨f, rfl⟩ := r
    obtain ⟨fs, rfl⟩ := ih
    exact ⟨.cons f fs, rfl⟩
theorem z_its {H' : Hp} : ∀ {vs : List V} {ds : List D}, Fzs K B vs ds → Its (Tr K B H' .z) vs ds []
  | _, _, .nil => .nil
  | _, _, .cons f fs => by
    have := Its.cons (R := Tr K B H' .z) (S := []) (T := []) (by unfold Tr; exact ⟨f, rfl⟩) (z_its fs)
    simpa using this
end
section
variable {X : Cx} {W : WX} {e o kx : Expr} {pos : Pos} {i : Nat}
def deepSet (i : Nat) (p : List Nat) (h : List D → Option (List D)) : M Fl := fun ρ => match ρ[i]? with
  | some (.dp m d) => match subM m d p with
    | some (.l .z, .lst ds) => match h ds with
      | some ds' => .ok .nx (ρ.set i (.dp m (setM d p (.lst ds'))))
      | none => .fail
    | _ => .fail
  | _ => .fail
theorem deep_go {F : Fr} {ρ ρ2 : Env} {σ : St} {B H B2 H2 : Hp} {N : Ends} {m : Mk} {d : D} {v0 v : V} {S : List Addr} {p : List Nat} {mm : Mk × D} {h : List D → Option (List D)} (L : Lv X.K F ρ σ B H) (M : Lv X.K (hidF X.K F B H ρ σ i) ρ2 σ B2 H2) (hd : Hd X.K F ρ ρ2 σ B H B2 H2 i m d v0 S) (hsl : ρ[i]? = some (.dp m d)) (hsig : σ[i]? = some (some v0)) (hsub : subM m d p = some mm) (hat : At H v0 p v) (f : Tr X.K B H m v0 d S)
    (P : PostS X W F B2 (deepSet i p h (ρ2.set i (.dp m d))) N) : ∃ a vs ds ds', v = .ref a ∧ H a = some (.lst vs) ∧ H2 a = some (.lst vs) ∧ Fzs X.K B2 vs ds ∧ h ds = some ds' ∧ ∀ vs', Fzs X.K B2 vs' ds' → N.nx σ (upd H2 a (.lst vs')) := by
  have hl : i < ρ2.length := by
    have h1 := (List.getElem?_eq_some_iff.mp hsl).1
    rw [L.len] at h1; rw [M.len]; exact h1
  unfold deepSet at P
  simp only [List.getElem?_set_self hl] at P
  have hat2 : At H2 v0 p v := hat.keep L.ex (M.exB.trans M.ex) f (fun a ha => (hd.kp a ha).2) (m' := mm.1) (d' := mm.2) hsub
  rw [hsub] at P
  obtain ⟨m', d'⟩ := mm
  split at P
  · rename_i heq
    injection heq with heq; injection heq with e1 e2; subst e1; subst e2
    rename_i ds
    obtain ⟨a, vs, U, rfl, hv, hb, it, nd, inS⟩ := hd.node hat2 hsub
    obtain ⟨fs, rfl⟩ := its_z it
    split at P
    · rename_i ds' hds
      refine ⟨a, vs, ds, ds', rfl, ?_, hv, fs, hds, fun vs' fs' => ?_⟩
      · obtain ⟨w, T, h1, h2, h3⟩ := f.at L.ex hsub
        obtain rfl := hat.det h1
        unfold Tr at h2
        obtain ⟨a', vs1, ds1, U1, ev, e2, b, hv1, it1, _⟩ := h2
        injection ev with ev; subst ev
        have := (hd.kp a (inS a (by simp))).2 _ hv1
        rw [hv] at this; injection this with this; injection this with this; subst this
        exact hv1
      · have := hd.place (T := []) hsig hat2 hsub (fun a h => nomatch h) (z_its fs') .nil (by simp) (fun _ _ _ _ a h => nomatch h)
        rw [List.set_set] at P
        exact P σ B2 _ (Ex.refl _) this
    · exact P.elim
  · exact P.elim
def pChk (i : Nat) (p : List Nat) : M Unit := fun ρ => match ρ[i]? with
  | some (.dp m d) => match subM m d p with
    | some (.l .z, .lst _) => .ok () ρ
    | _ => .fail
  | _ => .fail
def mDeepApp (i : Nat) (fo : M (List Nat)) (fe : M D) : M Fl := M.bind fo fun p => M.bind (pChk i p) fun _ => M.bind (mHid i fe) fun d => deepSet i p fun ds => if ds.length < 10000 then some (ds ++ [d]) else none
theorem sv_deepApp {apos cpos : Pos} {fe : M D} {fo : M (List Nat)} (ho : EPt X W o i fo) (he : EV X W e fe) (hbase : attributeBase o "append" X.env (eval o X.env) = eval o X.env := by rfl)
    (hfew : ((backTo cpos (starEach (e :: []) X.env)).all (fun x => !x.1) && (backToKw cpos (keywordEach [] X.env)).all (fun x => x.1.isSome)
      && decide ((e :: []).length + ([] : List Keyword).length + (if ([] : List Keyword).isEmpty then 0 else 1) < 30)) = true := by rfl)
    (hline : (apos.endLine == cpos.line) = true := by rfl) (hs : starEach (e :: []) X.env = (false, eval e X.env) :: starEach [] X.env := by rfl)
    (hsw : swapsWith (.Call (.Attribute o "append" apos) [e] [] cpos) none pos.line X.env = pure false := by rfl) : SV X W (.Expr (.Call (.Attribute o "append" apos) [e] [] cpos) pos) (mDeepApp i fo fe) := by
  intro F ρ σ B H N L P
  refine PS.ws (ps_expr (pe_bm PySem.F.plainAttrs_list PySem.F.slot_list_append PySem.F.type_list_append mt_append pe_we (pa_cons pe_we pa_nil hs) hbase hfew hline hs rfl) hsw) ?_
  refine ho F ρ σ B H _ L ((PostS.bind (σ := σ) P).imp fun p ρ2 B2 H2 e2 L2 P2 w hw => ?_)
  obtain ⟨m, dd, mm, v0, hsl, hsub, hsig, hat⟩ := hw
  obtain ⟨v0', S, q', f, g⟩ := L2.own0 i _ hsl rfl
  rw [hsig] at q'; injection q' with q'; injection q' with q'; subst q'
  have P2' : PostS X W F B2 ((M.bind (pChk i p) fun _ => M.bind (mHid i fe) fun d => deepSet i p fun ds => if ds.length < 10000 then some (ds ++ [d]) else none) ρ2) N := P2
  obtain ⟨m', d'⟩ := mm
  have hck : ∃ ds, m' = .l .z ∧ d' = .lst ds := by
    unfold M.bind pChk at P2'
    rw [hsl] at P2'
    dsimp only at P2'
    rw [hsub] at P2'
    cases m' with
    | z => exact P2'.elim
    | t _ => exact P2'.elim
    | l mz =>
      cases d' with
      | lst ds =>
        cases mz with
        | z => exact ⟨ds, rfl, rfl⟩
        | _ => exact P2'.elim
      | _ => cases mz <;> exact P2'.elim
  obtain ⟨ds0, rfl, rfl⟩ := hck
  have hck : pChk i p ρ2 = .ok () ρ2 := by unfold pChk; rw [hsl]; dsimp only; rw [hsub]
  unfold M.bind at P2'
  simp only [hck] at P2'
  obtain ⟨w', T, h1, h2, h3⟩ := f.1.at L2.ex hsub
  obtain rfl := hat.det h1
  unfold Tr at h2
  obtain ⟨a0, vs0, ds1, U1, rfl, e3, b0, hv0, it0, _⟩ := h2
  refine ⟨.inl ⟨rfl, vs0, .inl (.inl hv0)⟩, ?_⟩
  refine he _ _ σ B2 H2 _ L2.hide ((Post.hid L2 hsl hsig f (PostS.bind (σ := σ) P2')).imp fun k ρ3 B3 H3 e3 M3 hh u fu => ?_)
  obtain ⟨P3, eB, M, hd⟩ := hh
  obtain ⟨a, vs, ds, ds', ea, _, hv, fs, hds, k⟩ := deep_go (X := X) (W := W) L2 M hd hsl hsig hsub hat f.1 P3
  injection ea with ea; subst ea
  split at hds
  · rename_i hz
    injection hds with hds; subst hds
    exact ⟨a0, vs, u, rfl, rfl, hv, lt_line (by rw [fs.len]; exact hz), k _ (fs.append (.cons fu .nil))⟩
  · cases hds
end
end Dt
namespace Dt
open PySem PySem.Spec PyProof.Rows L2
section
variable {ρ ρ0 ρ1 ρ2 ρ3 ρ4 ρ9 : Env} {i : Nat} {α β : Type} {F : α → D} {G : β → D} {xs : List (List α)} {v : α} {z z1 z2 : Int} {fk fk1 fk2 fe : M D} {m : Mk}
theorem p_root {d : D} (h : ρ[i]? = some (.dp m d)) : pRoot i ρ = .ok [] ρ := by unfold pRoot; rw [h]
theorem hid_of {γ : Type} {f : M γ} {a : γ} {d : D} (h : ρ[i]? = some (.dp m d)) (hf : f (ρ.set i .un) = .ok a ρ1) (hr : ρ1.set i (.dp m d) = ρ2) : mHid i f ρ = .ok a ρ2 := by
  unfold mHid; rw [h]; dsimp only; rw [hf]; dsimp only; rw [hr]
theorem subM_l {ds : List D} {k : Nat} {p : List Nat} : subM (.l m) (.lst ds) (k :: p) = (ds[k]?).bind fun d => subM m d p := rfl
theorem map_at {ys : List β} [Inhabited β] (h : InB ys.length z) : (ys.map G)[ixN' ys.length z]? = some (G (ix ys z)) := by
  obtain ⟨h1, h2⟩ := ixN_of h
  rw [List.getElem?_map, List.getElem?_eq_getElem h2]
  unfold ix
  rw [List.getD_eq_getElem?_getD, List.getElem?_eq_getElem h2]; rfl
theorem p_ix1 [Inhabited β] {ys : List β} (h : ρ[i]? = some (.dp (.l m) (eL G ys))) (hk : fk (ρ.set i .un) = .ok (.int z) ρ1) (hr : ρ1.set i (.dp (.l m) (eL G ys)) = ρ2) (h2 : ρ2[i]? = some (.dp (.l m) (eL G ys))) (hb : InB ys.length z) :
    pIx i (pRoot i) fk ρ = .ok [ixN' ys.length z] ρ2 := by
  unfold pIx M.bind
  rw [p_root h]; dsimp only
  rw [hid_of h hk hr]; dsimp only
  rw [h2]; dsimp only
  have e : pItem (.l m) (eL G ys) [] (.int z) = some [ixN' ys.length z] := by
    unfold pItem eL
    dsimp only
    rw [subM_nil]
    dsimp only
    rw [List.length_map, (ixN_of hb).1]
    show (if (subM (.l m) (D.lst (ys.map G)) [ixN' ys.length z]).isSome = true then some [ixN' ys.length z] else none) = _
    rw [subM_l, map_at hb]
    show (if (subM m (G (ix ys z)) []).isSome = true then _ else _) = _
    rw [subM_nil]; rfl
  rw [e]
theorem setM_1 {ys : List α} (hb : InB xs.length z1) : setM (eL (eL F) xs) [ixN' xs.length z1] (.lst (ys.map F)) = eL (eL F) (setI xs z1 ys) := by
  unfold eL setI
  show D.lst _ = D.lst _
  rw [List.map_set]; rfl
theorem deepSet_of {h : List D → Option (List D)} {ys : List α} (hs : ρ[i]? = some (.dp (.l (.l .z)) (eL (eL F) xs))) (hb : InB xs.length z1) (hh : h ((ix xs z1).map F) = some (ys.map F)) (hr : ρ.set i (.dp (.l (.l .z)) (eL (eL F) (setI xs z1 ys))) = ρ1) : deepSet i [ixN' xs.length z1] h ρ = .ok .nx ρ1 := by
  have e2 : subM (.l (.l .z)) (eL (eL F) xs) [ixN' xs.length z1] = some (.l .z, eL F (ix xs z1)) := by
    unfold eL
    rw [subM_l]
    have := map_at (G := eL F) hb
    unfold eL at this
    rw [this]; exact subM_nil
  unfold deepSet
  rw [hs]; dsimp only
  rw [e2, ← hr, ← setM_1 hb]
  unfold eL
  dsimp only
  rw [hh]
theorem sDeepApp {ρ5 : Env} [Inhabited α] (h : ρ[i]? = some (.dp (.l (.l .z)) (eL (eL F) xs))) (hk1 : fk1 (ρ.set i .un) = .ok (.int z1) ρ1) (hr1 : ρ1.set i (.dp (.l (.l .z)) (eL (eL F) xs)) = ρ2) (h2 : ρ2[i]? = some (.dp (.l (.l .z)) (eL (eL F) xs)))
    (he : fe (ρ2.set i .un) = .ok (F v) ρ3) (hr2 : ρ3.set i (.dp (.l (.l .z)) (eL (eL F) xs)) = ρ4) (h4 : ρ4[i]? = some (.dp (.l (.l .z)) (eL (eL F) xs))) (hb1 : InB xs.length z1) (hl : (ix xs z1).length < 10000) (hr : ρ4.set i (.dp (.l (.l .z)) (eL (eL F) (setI xs z1 (ix xs z1 ++ [v])))) = ρ5) :
    mDeepApp i (pIx i (pRoot i) fk1) fe ρ = .ok .nx ρ5 := by
  unfold mDeepApp
  have e1 := p_ix1 (G := eL F) h hk1 hr1 h2 hb1
  have e2 : subM (.l (.l .z)) (eL (eL F) xs) [ixN' xs.length z1] = some (.l .z, eL F (ix xs z1)) := by
    unfold eL
    rw [subM_l]
    have := map_at (G := eL F) hb1
    unfold eL at this
    rw [this]; exact subM_nil
  have e3 : pChk i [ixN' xs.length z1] ρ2 = .ok () ρ2 := by
    unfold pChk; rw [h2]; dsimp only; rw [e2]; rfl
  unfold M.bind
  rw [e1]; dsimp only
  rw [e3]; dsimp only
  rw [hid_of h2 he hr2]; dsimp only
  refine deepSet_of (F := F) (ys := ix xs z1 ++ [v]) h4 hb1 ?_ hr
  rw [List.length_map, if_pos hl, List.map_append]; rfl
end
section
variable {α β : Type} {F : α → D} {G : β → D} {f : M (List D)} {g : D → Env → Option Env} {t : M Bool} {e : M (D × Ob)} {own : List Nat} {ρ ρ0 ρ1 ρ9 : Env} {m : Mk} {o : Ob}
theorem lcG_pure {φ : α → β} (hm : ∀ y, obMk o (G y) = some m) : ∀ (xs : List α) (acc : List D), (∀ x ∈ xs, ∃ ρx, g (F x) ρ1 = some ρx ∧ wipeE ρx own = ρ1 ∧ ∃ ρz, e ρx = .ok (G (φ x), o) ρz ∧ wipeE ρz own = ρ1) → acc.length + xs.length ≤ 10000 →
    mLcG own g (M.pure true) e m (xs.map F) acc ρ1 = .ok (acc ++ (xs.map φ).map G) ρ1
  | [], acc, _, _ => by simp [mLcG, M.pure]
  | x :: xs, acc, h, hl => by
    obtain ⟨ρx, h1, h2, ρz, h3, h4⟩ := h x (by simp)
    rw [List.length_cons] at hl
    have ih := fun acc' hl' => lcG_pure (φ := φ) hm xs acc' (fun y hy => h y (List.mem_cons_of_mem _ hy)) hl'
    rw [List.map_cons]
    unfold mLcG
    rw [h1]
    dsimp only
    unfold M.bind mNoR M.pure
    dsimp only
    rw [h3]
    dsimp only
    rw [if_pos ⟨by omega, hm _⟩, h4]
    have := ih (acc ++ [G (φ x)]) (by rw [List.length_append, List.length_singleton]; omega)
    unfold M.pure at this
    rw [this]
    simp
theorem lcD {φ : α → β} {xs : List α} (hm : ∀ y, obMk o (G y) = some m) (hf : f ρ = .ok (xs.map F) ρ0) (hρ : wipeE ρ0 own = ρ1) (hb : ∀ x ∈ xs, ∃ ρx, g (F x) ρ1 = some ρx ∧ wipeE ρx own = ρ1 ∧ ∃ ρz, e ρx = .ok (G (φ x), o) ρz ∧ wipeE ρz own = ρ1) (hl : xs.length ≤ 10000) (h9 : wipeE ρ1 own = ρ9) :
    mLcD own m f g (M.pure true) e ρ = .ok (eL G (xs.map φ), .dp (.l m)) ρ9 := by
  unfold mLcD M.bind
  rw [hf]
  dsimp only
  rw [hρ, lcG_pure (φ := φ) hm xs [] hb (by simpa using hl)]
  dsimp only
  rw [h9]; rfl
theorem sSetD {fo : M (D × Ob)} {d : D} {i : Nat} {ρ2 : Env} (h : fo ρ = .ok (d, .dp m) ρ1) (h2 : ρ1.set i (.dp m d) = ρ2) : mSet i fo ρ = .ok .nx ρ2 := by
  unfold mSet M.bind; rw [h]; show mPut i (d, .dp m) ρ1 = _; unfold mPut Slot.of; dsimp only; rw [h2]
end
abbrev NE := Rat ⊕ Int
instance : Inhabited NE := ⟨.inr 0⟩
end Dt
namespace Dt
open PySem PySem.Spec PyProof.Rows L2
def fstI : List Int → Int → Nat
  | [], _ => 0
  | k :: r, z => if k = z then 0 else fstI r z + 1
theorem fstI_at : ∀ {ns : List Int} {z : Int}, z ∈ ns → ns[fstI ns z]? = some z ∧ ∀ m k, m < fstI ns z → ns[m]? = some k → k ≠ z
  | [], _, h => by simp at h
  | k :: r, z, h => by
    unfold fstI
    by_cases e : k = z
    · subst e; rw [if_pos rfl]; exact ⟨rfl, fun m k' hm => absurd hm (Nat.not_lt_zero _)⟩
    · rw [if_neg e]
      obtain ⟨h1, h2⟩ := fstI_at (ns := r) (z := z) ((List.mem_cons.mp h).resolve_left (Ne.symm e))
      refine ⟨by simpa using h1, fun m k' hm hk => ?_⟩
      cases m with
      | zero => simp at hk; rw [← hk]; exact e
      | succ m => exact h2 m k' (by omega) (by simpa using hk)
def idxD (d k : D) : Option D := match d, k with
  | .lst ds, .int z => (asInts ds).bind fun ns => if z ∈ ns then some (.int (fstI ns z)) else none
  | _, _ => none
def isLst : Option D → Bool
  | some (.lst _) => true
  | _ => false
def mIndexL (i : Nat) (fk : M D) : M D := M.bind (chk i) fun _ => M.bind (fun ρ => if isLst (contR ρ[i]?) = true then .ok () ρ else .fail) fun _ => M.bind fk fun k ρ => match (contR ρ[i]?).bind fun d => idxD d k with
  | some z => .ok z ρ
  | none => .fail
section
variable {X : Cx} {W : WX} {e : Expr} {pos : Pos} {i : Nat} {x : Str} {px : Pos}
theorem ev_indexL {apos cpos : Pos} {fk : M D} (hk : EV X W e fk) (hN : X.N[i]? = some x := by rfl) (hv : Vis X.env.scope x := by first | exact Or.inl rfl | exact Or.inr (Or.inl rfl) | exact Or.inr (Or.inr rfl)) (hd : (x == ("__debug__" : Str)) = false := by decide)
    (hcd : (x == ("__classdict__" : Str)) = false := by decide) (hbase : attributeBase (.Name x px) "index" X.env (eval (.Name x px) X.env) = eval (.Name x px) X.env := by rfl)
    (hfew : ((backTo cpos (starEach (e :: []) X.env)).all (fun x => !x.1) && (backToKw cpos (keywordEach [] X.env)).all (fun x => x.1.isSome)
      && decide ((e :: []).length + ([] : List Keyword).length + (if ([] : List Keyword).isEmpty then 0 else 1) < 30)) = true := by rfl)
    (hline : (apos.endLine == cpos.line) = true := by rfl) (hs : starEach (e :: []) X.env = (false, eval e X.env) :: starEach [] X.env := by rfl) : EV X W (.Call (.Attribute (.Name x px) "index" apos) [e] [] cpos) (mIndexL i fk) := by
  intro F ρ σ B H Q L P
  refine PE.we (pe_bm PySem.F.plainAttrs_list PySem.F.slot_list_index PySem.F.type_list_index mt_index (pe_var hN hv hd hcd) (pa_cons pe_we pa_nil hs) hbase hfew hline hs rfl) ?_
  have P0 : Post X W F σ B ((M.bind (chk i) fun _ => M.bind (fun ρ => if isLst (contR ρ[i]?) = true then .ok () ρ else .fail) fun _ => M.bind fk fun k ρ => match (contR ρ[i]?).bind fun d => idxD d k with
    | some z => .ok z ρ
    | none => Rs.fail) ρ) (fun d _ B' H' => ∀ v, Fz X.K B' v d → Q v H') := P
  have hne : chk i ρ ≠ .fail := fun z => by unfold M.bind at P0; simp only [z] at P0; exact P0.elim
  obtain ⟨hck, vo, ev⟩ := L.chk (α := Unit) hne
  unfold M.bind at P0
  simp only [hck] at P0
  by_cases hil : isLst (contR ρ[i]?) = true
  · rw [if_pos hil] at P0
    have hc : ∃ ds, contR ρ[i]? = some (.lst ds) := by
      cases q : contR ρ[i]? with
      | none => rw [q] at hil; cases hil
      | some d => cases d with
        | lst ds => exact ⟨ds, rfl⟩
        | _ => rw [q] at hil; cases hil
    obtain ⟨ds0, hc⟩ := hc
    obtain ⟨_, _, _, _, hl0⟩ := L.cont hc ev
    obtain ⟨a, vs0, rfl, h0, _⟩ := hl0 _ rfl
    refine ⟨_, ev, .inl ⟨rfl, vs0, .inl (.inl h0)⟩, ?_⟩
    refine hk F ρ σ B H _ L ((Post.bind P0).imp fun k ρ2 B2 H2 e2 L2 P3 u fu => ?_)
    cases q : contR ρ2[i]? with
    | none => simp only [q, Option.bind_none] at P3; exact P3.elim
    | some d =>
      simp only [q, Option.bind_some] at P3
      cases q2 : idxD d k with
      | none => simp only [q2] at P3; exact P3.elim
      | some z =>
        simp only [q2] at P3
        unfold idxD at q2
        split at q2
        · rename_i ds y
          obtain ⟨B3, _, _, _, hl⟩ := L2.cont q ev
          obtain ⟨a', vs, ea, h1, fs⟩ := hl _ rfl
          injection ea with ea; subst ea
          cases q3 : asInts ds with
          | none => rw [q3] at q2; cases q2
          | some ns =>
            rw [q3] at q2
            have q2' : (if y ∈ ns then some (D.int (fstI ns y)) else none) = some z := q2
            split at q2'
            · rename_i hm
              injection q2' with q2'; subst q2'
              cases fu
              have hds := asInts_eq q3
              subst hds
              have hvs := fs.ints
              subst hvs
              obtain ⟨h2, h3⟩ := fstI_at hm
              refine ⟨a, _, .int y, fstI ns y, .int y, rfl, rfl, .inl (.inl h1), rfl, by simp [List.all_map, Function.comp_def, flatV], by rw [List.getElem?_map, h2]; rfl, by simp [eqV], fun m z' hm' hz' => ?_, P3 B2 H2 (Ex.refl _) L2 _ (.int _)⟩
              rw [List.getElem?_map] at hz'
              cases q4 : ns[m]? with
              | none => rw [q4] at hz'; cases hz'
              | some n =>
                rw [q4] at hz'; injection hz' with hz'; subst hz'
                have := h3 m n hm' q4
                simp [eqV, this]
            · cases q2'
        · cases q2
  · rw [if_neg hil] at P0; exact P0.elim
end
theorem t_idx {ρ ρ1 : Env} {i : Nat} {fk : M D} {ns : List Int} {z : Int} (hc : chk i ρ = .ok () ρ) (h0 : isLst (contR ρ[i]?) = true) (h2 : fk ρ = .ok (.int z) ρ1) (hs : contR ρ1[i]? = some (eL D.int ns)) (h : z ∈ ns) : mIndexL i fk ρ = .ok (.int (fstI ns z)) ρ1 := by
  unfold mIndexL M.bind
  rw [hc]; dsimp only; rw [if_pos h0]; dsimp only; rw [h2]; dsimp only; rw [hs]
  unfold eL idxD
  dsimp only [Option.bind_some]
  rw [asInts_map]; dsimp only [Option.bind_some]; rw [if_pos h]
end Dt
namespace Dt
open PySem PySem.Spec PyProof.Rows L2
end Dt
namespace Dt
open PySem PySem.Spec PyProof.Rows L2
instance iLine : DecidableEq Line := inferInstance
instance iStand : DecidableEq Stand := inferInstance
instance iComD : DecidableEq Com := inferInstance
instance iSCD : DecidableEq (List Stand × Com) := @instDecidableEqProd _ _ inferInstance inferInstance
instance iNetD : DecidableEq Net := @instDecidableEqProd (List Line) (List Stand × Com) inferInstance iSCD
end Dt
namespace Dt
open PySem PySem.Spec PyProof.Rows L2
def relab (sc sc' : Scope) : Scope := relabel sc { scope := sc', locals := 0, globals := 0, cells := [] }
theorem relabel_eq {sc : Scope} {env : PySem.Env} : relabel sc env = relab sc env.scope := rfl
end Dt
namespace Dt
open PySem PySem.Spec PyProof.Rows L2
section
variable {K : PySem.W.Frag} {F : Fr} {ρ : Env} {σ : St} {B H : Hp}
end
end Dt
namespace Look
open PySem PySem.Spec PyProof.Rows L2 Dt
noncomputable def fb_stands_of : M Fl :=
  mRet (mOf (mBin dIx (mVar 0) (M.pure (.int 1))))
noncomputable def fn_stands_of : List D → Rf := runF none 1 fb_stands_of
noncomputable def t_stands_of (v_net : Net) : (List Stand) :=
  v_net.2.1
def s_stands_of (v_net : Net) : Prop :=
  True
theorem e_stands_of {v_net : Net} (h : s_stands_of v_net) : fn_stands_of [eNet v_net] = .ok ((eL eStand) (t_stands_of v_net)) .ff .non := by
  refine run0 (F := (eL eStand)) (o := .ff) (fb := fb_stands_of) (x := t_stands_of v_net) ?_
  show JR (eL eStand) .ff (fb_stands_of [.fz (eNet v_net)]) _
  delta fb_stands_of t_stands_of
  delta s_stands_of at h
  exact sRet (mof (b2 (vf 0 rfl) rfl rfl)) (jr_mk rfl)
noncomputable def fb_ways_of : M Fl :=
  mRet (mOf (mBin dIx (mBin dIx (mBin dIx (mVar 0) (M.pure (.int 1))) (mVar 1)) (M.pure (.int 2))))
noncomputable def fn_ways_of : List D → Rf := runF none 2 fb_ways_of
noncomputable def t_ways_of (v_net : Net) (v_stand : Int) : (List Way) :=
  (ix v_net.2.1 v_stand).2.2
def s_ways_of (v_net : Net) (v_stand : Int) : Prop :=
  (InB v_net.2.1.length v_stand)
theorem e_ways_of {v_net : Net} {v_stand : Int} (h : s_ways_of v_net v_stand) : fn_ways_of [eNet v_net, D.int v_stand] = .ok ((eL eWay) (t_ways_of v_net v_stand)) .ff .non := by
  refine run0 (F := (eL eWay)) (o := .ff) (fb := fb_ways_of) (x := t_ways_of v_net v_stand) ?_
  show JR (eL eWay) .ff (fb_ways_of [.fz (eNet v_net), zI v_stand]) _
  delta fb_ways_of t_ways_of
  delta s_ways_of at h
  exact sRet (mof (b2 (b2 (b2 (vf 0 rfl) rfl rfl) (vf 1 rfl) (o_ixL (F := eStand) (xs := v_net.2.1) h)) rfl rfl)) (jr_mk rfl)
noncomputable def fb_is_open : M Fl :=
  mRet (mOf (mBin dEq (mBin dIx (mBin dIx (mVar 0) (M.pure (.int 2))) (M.pure (.int 0))) (M.pure (.str "open"))))
noncomputable def fn_is_open : List D → Rf := runF none 1 fb_is_open
noncomputable def t_is_open (v_net : Net) : Bool :=
  (decide (v_net.2.2.1 = ("open" : Str)))
def s_is_open (v_net : Net) : Prop :=
  True
theorem e_is_open {v_net : Net} (h : s_is_open v_net) : fn_is_open [eNet v_net] = .ok (D.bl (t_is_open v_net)) .ff .non := by
  refine run0 (F := D.bl) (o := .ff) (fb := fb_is_open) (x := t_is_open v_net) ?_
  show JR D.bl .ff (fb_is_open [.fz (eNet v_net)]) _
  delta fb_is_open t_is_open
  delta s_is_open at h
  exact sRet (mof (b2 (b2 (b2 (vf 0 rfl) rfl rfl) rfl rfl) rfl dEq_s)) (jr_mk rfl)
noncomputable def fb_from_outside : M Fl :=
  mSeq (mIf (mTest (mFz (mCallN 1 none fn_is_open (xV (mVar 0) xNil)))) (mRet (mOf (mBin dIx (mBin dIx (mBin dIx (mVar 0) (M.pure (.int 2))) (M.pure (.int 1))) (mVar 1)))) mNx)
    (mRet (mOf (M.pure (.tup [(.int 0), (.int 1)]))))
noncomputable def fn_from_outside : List D → Rf := runF none 2 fb_from_outside
noncomputable def t_from_outside (v_net : Net) (v_stand : Int) : Rat :=
  cond (t_is_open v_net) (ix ((numQ v_net.2.2.2)) v_stand) (0 : Rat)
def s_from_outside (v_net : Net) (v_stand : Int) : Prop :=
  ((s_is_open v_net) ∧ ((t_is_open v_net) = true → ((v_net.2.2.2.isLeft = true) ∧ (InB ((numQ v_net.2.2.2)).length v_stand))))
theorem e_from_outside {v_net : Net} {v_stand : Int} (h : s_from_outside v_net v_stand) : fn_from_outside [eNet v_net, D.int v_stand] = .ok (fq (t_from_outside v_net v_stand)) .ff .non := by
  refine run0 (F := fq) (o := .ff) (fb := fb_from_outside) (x := t_from_outside v_net v_stand) ?_
  show JR fq .ff (fb_from_outside [.fz (eNet v_net), zI v_stand]) _
  delta fb_from_outside t_from_outside
  delta s_from_outside at h
  exact sqIf (tst (mfz (cN (x1 (vf 0 rfl) x0) rfl rfl (e_is_open (v_net := v_net) h.1 :) rfl))) (fun hc => bdh (h.2 hc) (fun h => sqRet (mof (b2 ((cNumQ (b2 (b2 (vf 0 rfl) rfl rfl) rfl rfl) h.1)) (vf 1 rfl) (o_ixL (F := fq) (xs := (numQ v_net.2.2.2)) h.2))) (jr_mk rfl))) (fun _ => sq rfl (sRet (mof rfl) (jr_mk rfl)))
noncomputable def fb_left_over : M Fl :=
  mRet (mCallN 2 none Std.fn_less (xV (M.pure (.tup [(.int 1), (.int 1)])) (xV (mFz (mCallN 1 none Std.fn_total (xV (mFz (mLc [2, 3] (mIter (mFz (mCallN 2 none fn_ways_of (xV (mVar 0) (xV (mVar 1) xNil))))) (gT 2 (gsC (gN 2) (gsC (gN 3) gsN))) (M.pure true) (mVar 3))) xNil))) xNil)))
noncomputable def fn_left_over : List D → Rf := runF none 4 fb_left_over
noncomputable def t_left_over (v_net : Net) (v_stand : Int) : Rat :=
  ((1 : Rat) - (Std.sumQ (((t_ways_of v_net v_stand).map (fun (xv1 : Way) => xv1.2)))))
def s_left_over (v_net : Net) (v_stand : Int) : Prop :=
  ((s_ways_of v_net v_stand) ∧ (((t_ways_of v_net v_stand)).length ≤ 10000) ∧ (Std.tsz (((t_ways_of v_net v_stand).map (fun (xv1 : Way) => xv1.2))) ≤ 80000000) ∧ (Std.SQ ((1 : Rat)) ((Std.sumQ (((t_ways_of v_net v_stand).map (fun (xv1 : Way) => xv1.2)))))))
theorem e_left_over {v_net : Net} {v_stand : Int} (h : s_left_over v_net v_stand) : fn_left_over [eNet v_net, D.int v_stand] = .ok (fq (t_left_over v_net v_stand)) .ff .non := by
  refine run0 (F := fq) (o := .ff) (fb := fb_left_over) (x := t_left_over v_net v_stand) ?_
  show JR fq .ff (fb_left_over [.fz (eNet v_net), zI v_stand, .un, .un]) _
  delta fb_left_over t_left_over
  delta s_left_over at h
  exact sRet (cN (x1 rfl (x1 (mfz (cN (x1 (mfz (lcM (F := eWay) (G := fq) (φ := fun (xv1 : Way) => xv1.2) (ρ1 := [.fz (eNet v_net), zI v_stand, .un, .un]) (i_L (F := eWay) (mfz (cN (x1 (vf 0 rfl) (x1 (vf 1 rfl) x0)) rfl rfl (e_ways_of (v_net := v_net) (v_stand := v_stand) h.1 :) rfl))) rfl (fun xv1 hx2 => ⟨_, rfl, rfl, _, vf 3 rfl, rfl⟩) h.2.1 rfl)) x0) rfl rfl (Std.e_total (xs := ((t_ways_of v_net v_stand).map (fun (xv1 : Way) => xv1.2))) h.2.2.1 :) rfl)) x0)) rfl rfl (Std.e_less (p := (1 : Rat)) (q := (Std.sumQ (((t_ways_of v_net v_stand).map (fun (xv1 : Way) => xv1.2))))) h.2.2.2 :) rfl) (jr_mk rfl)
noncomputable def fb_begin_count : M Fl :=
  mSeq (mIf (mTest (mFz (mCallN 1 none fn_is_open (xV (mVar 0) xNil)))) (mRet (mOf (M.pure (.int 0)))) mNx)
    (mRet (mOf (mBin dIx (mBin dIx (mBin dIx (mVar 0) (M.pure (.int 2))) (M.pure (.int 1))) (mVar 1))))
noncomputable def fn_begin_count : List D → Rf := runF none 2 fb_begin_count
noncomputable def t_begin_count (v_net : Net) (v_stand : Int) : Int :=
  cond (t_is_open v_net) (0 : Int) (ix ((numI v_net.2.2.2)) v_stand)
def s_begin_count (v_net : Net) (v_stand : Int) : Prop :=
  ((s_is_open v_net) ∧ ((t_is_open v_net) = false → ((v_net.2.2.2.isRight = true) ∧ (InB ((numI v_net.2.2.2)).length v_stand))))
theorem e_begin_count {v_net : Net} {v_stand : Int} (h : s_begin_count v_net v_stand) : fn_begin_count [eNet v_net, D.int v_stand] = .ok (D.int (t_begin_count v_net v_stand)) .ff .non := by
  refine run0 (F := D.int) (o := .ff) (fb := fb_begin_count) (x := t_begin_count v_net v_stand) ?_
  show JR D.int .ff (fb_begin_count [.fz (eNet v_net), zI v_stand]) _
  delta fb_begin_count t_begin_count
  delta s_begin_count at h
  exact sqIf (tst (mfz (cN (x1 (vf 0 rfl) x0) rfl rfl (e_is_open (v_net := v_net) h.1 :) rfl))) (fun _ => sqRet (mof rfl) (jr_mk rfl)) (fun hc => bdh (h.2 hc) (fun h => sq rfl (sRet (mof (b2 ((cNumI (b2 (b2 (vf 0 rfl) rfl rfl) rfl rfl) h.1)) (vf 1 rfl) (o_ixL (F := D.int) (xs := (numI v_net.2.2.2)) h.2))) (jr_mk rfl))))
noncomputable def fb_goals : M Fl :=
  mRet (mLc [2, 3] (mIter (mFz (mCallN 2 none fn_ways_of (xV (mVar 0) (xV (mVar 1) xNil))))) (gT 2 (gsC (gN 2) (gsC (gN 3) gsN))) (M.pure true) (mVar 2))
noncomputable def fn_goals : List D → Rf := runF none 4 fb_goals
noncomputable def t_goals (v_net : Net) (v_stand : Int) : (List Int) :=
  ((t_ways_of v_net v_stand).map (fun (xv1 : Way) => xv1.1))
def s_goals (v_net : Net) (v_stand : Int) : Prop :=
  ((s_ways_of v_net v_stand) ∧ (((t_ways_of v_net v_stand)).length ≤ 10000))
theorem e_goals {v_net : Net} {v_stand : Int} (h : s_goals v_net v_stand) : fn_goals [eNet v_net, D.int v_stand] = .ok ((eL D.int) (t_goals v_net v_stand)) .tt .non := by
  refine run0 (F := (eL D.int)) (o := .tt) (fb := fb_goals) (x := t_goals v_net v_stand) ?_
  show JR (eL D.int) .tt (fb_goals [.fz (eNet v_net), zI v_stand, .un, .un]) _
  delta fb_goals t_goals
  delta s_goals at h
  exact sRet (lcM (F := eWay) (G := D.int) (φ := fun (xv1 : Way) => xv1.1) (ρ1 := [.fz (eNet v_net), zI v_stand, .un, .un]) (i_L (F := eWay) (mfz (cN (x1 (vf 0 rfl) (x1 (vf 1 rfl) x0)) rfl rfl (e_ways_of (v_net := v_net) (v_stand := v_stand) h.1 :) rfl))) rfl (fun xv1 hx2 => ⟨_, rfl, rfl, _, vf 2 rfl, rfl⟩) h.2 rfl) (jr_mk rfl)
noncomputable def fb_steps_to : M Fl :=
  mSeq (mSet 2 mDNew)
    (mSeq (mFor (mIter (mVar 1)) (gN 3) (mSeq (mDPut 2 (M.pure (.int 0)) (mVar 3))
    (mSeq (mKill [3]) mNx)))
    (mSeq (mSet 4 (mListOf (mCons (mVar 1) mNil)))
    (mSeq (mSet 5 (mOf (M.pure (.int 0))))
    (mSeq (mWh (mTest (mBin dLt (mVar 5) (mLenL 4))) (mSeq (mSet 3 (mOf (mPeek 4 (mVar 5))))
    (mSeq (mFor (mIter (mFz (mCallN 2 none fn_goals (xV (mVar 0) (xV (mVar 3) xNil))))) (gN 6) (mSeq (mIf (mTest (mDIn true 2 (mVar 6))) (mSeq (mDPut 2 (mBin dAdd (mDGet 2 (mVar 3)) (M.pure (.int 1))) (mVar 6))
    (mSeq (mApp1 4 (mVar 6))
    mNx)) mNx)
    (mSeq (mKill [6]) mNx)))
    (mSeq (mAugI 5 (fun i j => i + j) (M.pure (.int 1)))
    (mSeq (mKill [3]) mNx)))))
    (mRet (mMove 2))))))
noncomputable def fn_steps_to : List D → Rf := runF none 7 fb_steps_to
noncomputable def t_steps_to (v_net : Net) (v_starts : (List Int)) : (List (Int × Int)) :=
  bd ([] : (List (Int × Int))) (fun (v_found_1 : (List (Int × Int))) => bd (v_starts.foldl (fun (z2 : ((List (Int × Int)))) (xv3 : Int) => bd (putA z2 xv3 ((0 : Int))) (fun (v_found_4 : (List (Int × Int))) => v_found_4)) v_found_1) (fun (z5 : ((List (Int × Int)))) => bd v_starts (fun (v_waiting_6 : (List Int)) => bd (0 : Int) (fun (v_at_7 : Int) => bd (whl (fun (z8 : ((List (Int × Int)) × (List Int) × Int)) => (decide (z8.2.2 < (z8.2.1.length : Int)))) (fun (z8 : ((List (Int × Int)) × (List Int) × Int)) => bd (ix z8.2.1 z8.2.2) (fun (v_stand_9 : Int) => bd ((t_goals v_net v_stand_9).foldl (fun (z10 : ((List (Int × Int)) × (List Int))) (xv11 : Int) => bd (cond (!hasA z10.1 xv11) (bd (putA z10.1 xv11 (((getA z10.1 v_stand_9) + (1 : Int)))) (fun (v_found_14 : (List (Int × Int))) => bd (z10.2 ++ [xv11]) (fun (v_waiting_15 : (List Int)) => (v_found_14, v_waiting_15)))) (z10.1, z10.2)) (fun (z17 : ((List (Int × Int)) × (List Int))) => (z17.1, z17.2))) (z8.1, z8.2.1)) (fun (z18 : ((List (Int × Int)) × (List Int))) => bd (z8.2.2 + (1 : Int)) (fun (v_at_19 : Int) => (z18.1, z18.2, v_at_19))))) (z5, v_waiting_6, v_at_7)) (fun (z20 : ((List (Int × Int)) × (List Int) × Int)) => z20.1)))))
def s_steps_to (v_net : Net) (v_starts : (List Int)) : Prop :=
  bd ([] : (List (Int × Int))) (fun (v_found_1 : (List (Int × Int))) => ((sfl (fun (z2 : ((List (Int × Int)))) (xv3 : Int) => bd (putA z2 xv3 ((0 : Int))) (fun (v_found_4 : (List (Int × Int))) => v_found_4)) (fun (z2 : ((List (Int × Int)))) (xv3 : Int) => (z2.length < 10000)) v_starts v_found_1) ∧ (bd (v_starts.foldl (fun (z2 : ((List (Int × Int)))) (xv3 : Int) => bd (putA z2 xv3 ((0 : Int))) (fun (v_found_4 : (List (Int × Int))) => v_found_4)) v_found_1) (fun (z5 : ((List (Int × Int)))) => bd v_starts (fun (v_waiting_6 : (List Int)) => bd (0 : Int) (fun (v_at_7 : Int) => (swh (fun (z8 : ((List (Int × Int)) × (List Int) × Int)) => (decide (z8.2.2 < (z8.2.1.length : Int)))) (fun (z8 : ((List (Int × Int)) × (List Int) × Int)) => bd (ix z8.2.1 z8.2.2) (fun (v_stand_9 : Int) => bd ((t_goals v_net v_stand_9).foldl (fun (z10 : ((List (Int × Int)) × (List Int))) (xv11 : Int) => bd (cond (!hasA z10.1 xv11) (bd (putA z10.1 xv11 (((getA z10.1 v_stand_9) + (1 : Int)))) (fun (v_found_14 : (List (Int × Int))) => bd (z10.2 ++ [xv11]) (fun (v_waiting_15 : (List Int)) => (v_found_14, v_waiting_15)))) (z10.1, z10.2)) (fun (z17 : ((List (Int × Int)) × (List Int))) => (z17.1, z17.2))) (z8.1, z8.2.1)) (fun (z18 : ((List (Int × Int)) × (List Int))) => bd (z8.2.2 + (1 : Int)) (fun (v_at_19 : Int) => (z18.1, z18.2, v_at_19))))) (fun (z8 : ((List (Int × Int)) × (List Int) × Int)) => ((decide (z8.2.2 < (z8.2.1.length : Int))) = true → ((InB z8.2.1.length z8.2.2) ∧ (bd (ix z8.2.1 z8.2.2) (fun (v_stand_9 : Int) => ((s_goals v_net v_stand_9) ∧ (sfl (fun (z10 : ((List (Int × Int)) × (List Int))) (xv11 : Int) => bd (cond (!hasA z10.1 xv11) (bd (putA z10.1 xv11 (((getA z10.1 v_stand_9) + (1 : Int)))) (fun (v_found_14 : (List (Int × Int))) => bd (z10.2 ++ [xv11]) (fun (v_waiting_15 : (List Int)) => (v_found_14, v_waiting_15)))) (z10.1, z10.2)) (fun (z17 : ((List (Int × Int)) × (List Int))) => (z17.1, z17.2))) (fun (z10 : ((List (Int × Int)) × (List Int))) (xv11 : Int) => ((!hasA z10.1 xv11) = true → ((v_stand_9 ∈ keysA z10.1) ∧ (z10.1.length < 10000) ∧ (bd (putA z10.1 xv11 (((getA z10.1 v_stand_9) + (1 : Int)))) (fun (v_found_14 : (List (Int × Int))) => (z10.2.length < 10000)))))) (t_goals v_net v_stand_9) (z8.1, z8.2.1)))))))) (z5, v_waiting_6, v_at_7))))))))
theorem e_steps_to {v_net : Net} {v_starts : (List Int)} (h : s_steps_to v_net v_starts) : fn_steps_to [eNet v_net, (eL D.int) v_starts] = .ok ((eDI D.int) (t_steps_to v_net v_starts)) .tt .non := by
  refine run0 (F := (eDI D.int)) (o := .tt) (fb := fb_steps_to) (x := t_steps_to v_net v_starts) ?_
  show JR (eDI D.int) .tt (fb_steps_to [.fz (eNet v_net), zJ v_starts, .un, .un, .un, .un, .un]) _
  delta fb_steps_to t_steps_to
  delta s_steps_to at h
  exact sqB (ctx := fun (v_found_1 : (List (Int × Int))) => [.fz (eNet v_net), zJ v_starts, .ow ((eDI D.int) v_found_1), .un, .un, .un, .un]) (sSetO (t_dnew (F := D.int)) rfl) h (fun v_found_1 h => sqB (ctx := fun (z5 : ((List (Int × Int)))) => [.fz (eNet v_net), zJ v_starts, .ow ((eDI D.int) z5), .un, .un, .un, .un]) (forN (F := D.int) (ctx := fun (z2 : ((List (Int × Int)))) => [.fz (eNet v_net), zJ v_starts, .ow ((eDI D.int) z2), .un, .un, .un, .un]) (i_L (F := D.int) (vf 1 rfl)) h.1 (fun z2 xv3 h => ⟨_, rfl, sqB (ctx := fun (v_found_4 : (List (Int × Int))) => [.fz (eNet v_net), zJ v_starts, .ow ((eDI D.int) v_found_4), zI xv3, .un, .un, .un]) (S := fun _ => True) (sDPut (i := 2) (F := D.int) (l := z2) (v := (0 : Int)) rfl (vf 3 rfl) ⟨_, rfl⟩ rfl h rfl) trivial (fun v_found_4 _ => sq (sKill (show _ = [.fz (eNet v_net), zJ v_starts, .ow ((eDI D.int) v_found_4), .un, .un, .un, .un] from rfl)) rfl)⟩)) h.2 (fun z5 h => sqB (ctx := fun (v_waiting_6 : (List Int)) => [.fz (eNet v_net), zJ v_starts, .ow ((eDI D.int) z5), .un, .ow ((eL D.int) v_waiting_6), .un, .un]) (sSetO (lofL (F := D.int) (a1 (vf 1 rfl) a0)) rfl) h (fun v_waiting_6 h => sqB (ctx := fun (v_at_7 : Int) => [.fz (eNet v_net), zJ v_starts, .ow ((eDI D.int) z5), .un, .ow ((eL D.int) v_waiting_6), zI v_at_7, .un]) (sSet (mof rfl) rfl) h (fun v_at_7 h => sqB (ctx := fun (z20 : ((List (Int × Int)) × (List Int) × Int)) => [.fz (eNet v_net), zJ v_starts, .ow ((eDI D.int) z20.1), .un, .ow ((eL D.int) z20.2.1), zI z20.2.2, .un]) (S := fun _ => True) (whN (ctx := fun (z8 : ((List (Int × Int)) × (List Int) × Int)) => [.fz (eNet v_net), zJ v_starts, .ow ((eDI D.int) z8.1), .un, .ow ((eL D.int) z8.2.1), zI z8.2.2, .un]) (c := (fun (z8 : ((List (Int × Int)) × (List Int) × Int)) => (decide (z8.2.2 < (z8.2.1.length : Int))))) (w := (fun (z8 : ((List (Int × Int)) × (List Int) × Int)) => bd (ix z8.2.1 z8.2.2) (fun (v_stand_9 : Int) => bd ((t_goals v_net v_stand_9).foldl (fun (z10 : ((List (Int × Int)) × (List Int))) (xv11 : Int) => bd (cond (!hasA z10.1 xv11) (bd (putA z10.1 xv11 (((getA z10.1 v_stand_9) + (1 : Int)))) (fun (v_found_14 : (List (Int × Int))) => bd (z10.2 ++ [xv11]) (fun (v_waiting_15 : (List Int)) => (v_found_14, v_waiting_15)))) (z10.1, z10.2)) (fun (z17 : ((List (Int × Int)) × (List Int))) => (z17.1, z17.2))) (z8.1, z8.2.1)) (fun (z18 : ((List (Int × Int)) × (List Int))) => bd (z8.2.2 + (1 : Int)) (fun (v_at_19 : Int) => (z18.1, z18.2, v_at_19)))))) (S := (fun (z8 : ((List (Int × Int)) × (List Int) × Int)) => ((decide (z8.2.2 < (z8.2.1.length : Int))) = true → ((InB z8.2.1.length z8.2.2) ∧ (bd (ix z8.2.1 z8.2.2) (fun (v_stand_9 : Int) => ((s_goals v_net v_stand_9) ∧ (sfl (fun (z10 : ((List (Int × Int)) × (List Int))) (xv11 : Int) => bd (cond (!hasA z10.1 xv11) (bd (putA z10.1 xv11 (((getA z10.1 v_stand_9) + (1 : Int)))) (fun (v_found_14 : (List (Int × Int))) => bd (z10.2 ++ [xv11]) (fun (v_waiting_15 : (List Int)) => (v_found_14, v_waiting_15)))) (z10.1, z10.2)) (fun (z17 : ((List (Int × Int)) × (List Int))) => (z17.1, z17.2))) (fun (z10 : ((List (Int × Int)) × (List Int))) (xv11 : Int) => ((!hasA z10.1 xv11) = true → ((v_stand_9 ∈ keysA z10.1) ∧ (z10.1.length < 10000) ∧ (bd (putA z10.1 xv11 (((getA z10.1 v_stand_9) + (1 : Int)))) (fun (v_found_14 : (List (Int × Int))) => (z10.2.length < 10000)))))) (t_goals v_net v_stand_9) (z8.1, z8.2.1))))))))) (s := (z5, v_waiting_6, v_at_7)) h (fun z8 h => tst (b2 (vf 5 rfl) (lnL (i := 4) (F := D.int) rfl) rfl)) (fun z8 h hc => bdh (h hc) (fun h => sqB (ctx := fun (v_stand_9 : Int) => [.fz (eNet v_net), zJ v_starts, .ow ((eDI D.int) z8.1), zI v_stand_9, .ow ((eL D.int) z8.2.1), zI z8.2.2, .un]) (sSet (mof (pk (i := 4) (F := D.int) (xs := z8.2.1) rfl (vf 5 rfl) rfl h.1)) rfl) h.2 (fun v_stand_9 h => sqB (ctx := fun (z18 : ((List (Int × Int)) × (List Int))) => [.fz (eNet v_net), zJ v_starts, .ow ((eDI D.int) z18.1), zI v_stand_9, .ow ((eL D.int) z18.2), zI z8.2.2, .un]) (S := fun _ => True) (forN (F := D.int) (ctx := fun (z10 : ((List (Int × Int)) × (List Int))) => [.fz (eNet v_net), zJ v_starts, .ow ((eDI D.int) z10.1), zI v_stand_9, .ow ((eL D.int) z10.2), zI z8.2.2, .un]) (i_L (F := D.int) (mfz (cN (x1 (vf 0 rfl) (x1 (vf 3 rfl) x0)) rfl rfl (e_goals (v_net := v_net) (v_stand := v_stand_9) h.1 :) rfl))) h.2 (fun z10 xv11 h => ⟨_, rfl, sqB (ctx := fun (z17 : ((List (Int × Int)) × (List Int))) => [.fz (eNet v_net), zJ v_starts, .ow ((eDI D.int) z17.1), zI v_stand_9, .ow ((eL D.int) z17.2), zI z8.2.2, zI xv11]) (S := fun _ => True) (ifJ (ctx := fun (z16 : ((List (Int × Int)) × (List Int))) => [.fz (eNet v_net), zJ v_starts, .ow ((eDI D.int) z16.1), zI v_stand_9, .ow ((eL D.int) z16.2), zI z8.2.2, zI xv11]) (v := bd (putA z10.1 xv11 (((getA z10.1 v_stand_9) + (1 : Int)))) (fun (v_found_14 : (List (Int × Int))) => bd (z10.2 ++ [xv11]) (fun (v_waiting_15 : (List Int)) => (v_found_14, v_waiting_15)))) (w := (z10.1, z10.2)) (tst (t_dnotin (i := 2) (F := D.int) (l := z10.1) (vf 6 rfl) (chk_ow rfl) rfl)) (fun hc => (bdh (h hc) (fun h => jnE (ctx := fun (z16 : ((List (Int × Int)) × (List Int))) => [.fz (eNet v_net), zJ v_starts, .ow ((eDI D.int) z16.1), zI v_stand_9, .ow ((eL D.int) z16.2), zI z8.2.2, zI xv11]) (s := bd (putA z10.1 xv11 (((getA z10.1 v_stand_9) + (1 : Int)))) (fun (v_found_14 : (List (Int × Int))) => bd (z10.2 ++ [xv11]) (fun (v_waiting_15 : (List Int)) => (v_found_14, v_waiting_15)))) (sqB (ctx := fun (v_found_14 : (List (Int × Int))) => [.fz (eNet v_net), zJ v_starts, .ow ((eDI D.int) v_found_14), zI v_stand_9, .ow ((eL D.int) z10.2), zI z8.2.2, zI xv11]) (sDPut (i := 2) (F := D.int) (l := z10.1) (v := ((getA z10.1 v_stand_9) + (1 : Int))) (b2 (t_dget (i := 2) (F := D.int) (l := z10.1) (vf 3 rfl) (chk_ow rfl) rfl h.1) rfl rfl) (vf 6 rfl) ⟨_, rfl⟩ rfl h.2.1 rfl) h.2.2 (fun v_found_14 h => sqB (ctx := fun (v_waiting_15 : (List Int)) => [.fz (eNet v_net), zJ v_starts, .ow ((eDI D.int) v_found_14), zI v_stand_9, .ow ((eL D.int) v_waiting_15), zI z8.2.2, zI xv11]) (S := fun _ => True) (sApp (i := 4) (F := D.int) (xs := z10.2) (v := xv11) (vf 6 rfl) ⟨_, rfl⟩ rfl h rfl) trivial (fun v_waiting_15 _ => rfl)))))) (fun _ => jnE (ctx := fun (z16 : ((List (Int × Int)) × (List Int))) => [.fz (eNet v_net), zJ v_starts, .ow ((eDI D.int) z16.1), zI v_stand_9, .ow ((eL D.int) z16.2), zI z8.2.2, zI xv11]) (s := (z10.1, z10.2)) rfl)) trivial (fun z17 _ => sq (sKill (show _ = [.fz (eNet v_net), zJ v_starts, .ow ((eDI D.int) z17.1), zI v_stand_9, .ow ((eL D.int) z17.2), zI z8.2.2, .un] from rfl)) rfl)⟩)) trivial (fun z18 _ => sqB (ctx := fun (v_at_19 : Int) => [.fz (eNet v_net), zJ v_starts, .ow ((eDI D.int) z18.1), zI v_stand_9, .ow ((eL D.int) z18.2), zI v_at_19, .un]) (S := fun _ => True) (sAugI (i := 5) rfl rfl rfl) trivial (fun v_at_19 _ => sq (sKill (show _ = [.fz (eNet v_net), zJ v_starts, .ow ((eDI D.int) z18.1), .un, .ow ((eL D.int) z18.2), zI v_at_19, .un] from rfl)) rfl)))))) trivial (fun z20 _ => sRet (mv_ow (i := 2) rfl) (jr_mk rfl))))))
noncomputable def fb_can_go : M Fl :=
  mRet (mSortI (mCons (mFz (mListD (mCons (mFz (mCallN 2 none fn_steps_to (xV (mVar 0) (xV (mFz (mLst (mCons (mVar 1) mNil))) xNil)))) mNil))) mNil))
noncomputable def fn_can_go : List D → Rf := runF none 2 fb_can_go
noncomputable def t_can_go (v_net : Net) (v_stand : Int) : (List Int) :=
  (PySem.W.sortI ((keysA ((t_steps_to v_net (([v_stand] : List Int)))))))
def s_can_go (v_net : Net) (v_stand : Int) : Prop :=
  (s_steps_to v_net (([v_stand] : List Int)))
theorem e_can_go {v_net : Net} {v_stand : Int} (h : s_can_go v_net v_stand) : fn_can_go [eNet v_net, D.int v_stand] = .ok ((eL D.int) (t_can_go v_net v_stand)) .tt .non := by
  refine run0 (F := (eL D.int)) (o := .tt) (fb := fb_can_go) (x := t_can_go v_net v_stand) ?_
  show JR (eL D.int) .tt (fb_can_go [.fz (eNet v_net), zI v_stand]) _
  delta fb_can_go t_can_go
  delta s_can_go at h
  exact sRet (t_sortI (a1 (mfz (t_listD (F := D.int) (a1 (mfz (cN (x1 (vf 0 rfl) (x1 (mfz (mlst (a1 (vf 1 rfl) a0))) x0)) rfl rfl (e_steps_to (v_net := v_net) (v_starts := ([v_stand] : List Int)) h :) rfl)) a0))) a0)) (jr_mk rfl)
noncomputable def fb_starts_of : M Fl :=
  mSeq (mSet 1 (mLst mNil))
    (mSeq (mFor (mRange1 (mCons (mCall dLen (mCons (mFz (mCallN 1 none fn_stands_of (xV (mVar 0) xNil))) mNil)) mNil)) (gN 2) (mSeq (mIf (mOr (mTest (mBin dNe (mFz (mCallN 2 none fn_from_outside (xV (mVar 0) (xV (mVar 2) xNil)))) (M.pure (.tup [(.int 0), (.int 1)])))) (mTest (mBin dGt (mFz (mCallN 2 none fn_begin_count (xV (mVar 0) (xV (mVar 2) xNil)))) (M.pure (.int 0))))) (mSeq (mApp1 1 (mVar 2))
    mNx) mNx)
    (mSeq (mKill [2]) mNx)))
    (mRet (mMove 1)))
noncomputable def fn_starts_of : List D → Rf := runF none 3 fb_starts_of
noncomputable def t_starts_of (v_net : Net) : (List Int) :=
  bd ([] : List Int) (fun (v_found_1 : (List Int)) => bd ((rangeI 0 ((((t_stands_of v_net)).length : Int))).foldl (fun (z2 : ((List Int))) (xv3 : Int) => bd (cond ((!decide ((t_from_outside v_net xv3) = (0 : Rat))) || (decide ((0 : Int) < (t_begin_count v_net xv3)))) (bd (z2 ++ [xv3]) (fun (v_found_6 : (List Int)) => v_found_6)) z2) (fun (z8 : ((List Int))) => z8)) v_found_1) (fun (z9 : ((List Int))) => z9))
def s_starts_of (v_net : Net) : Prop :=
  bd ([] : List Int) (fun (v_found_1 : (List Int)) => ((s_stands_of v_net) ∧ (-100000000 < ((((t_stands_of v_net)).length : Int)) ∧ ((((t_stands_of v_net)).length : Int)) < 100000000) ∧ (sfl (fun (z2 : ((List Int))) (xv3 : Int) => bd (cond ((!decide ((t_from_outside v_net xv3) = (0 : Rat))) || (decide ((0 : Int) < (t_begin_count v_net xv3)))) (bd (z2 ++ [xv3]) (fun (v_found_6 : (List Int)) => v_found_6)) z2) (fun (z8 : ((List Int))) => z8)) (fun (z2 : ((List Int))) (xv3 : Int) => ((s_from_outside v_net xv3) ∧ ((!decide ((t_from_outside v_net xv3) = (0 : Rat))) = false → (s_begin_count v_net xv3)) ∧ (((!decide ((t_from_outside v_net xv3) = (0 : Rat))) || (decide ((0 : Int) < (t_begin_count v_net xv3)))) = true → (z2.length < 10000)))) (rangeI 0 ((((t_stands_of v_net)).length : Int))) v_found_1)))
theorem e_starts_of {v_net : Net} (h : s_starts_of v_net) : fn_starts_of [eNet v_net] = .ok ((eL D.int) (t_starts_of v_net)) .tt .non := by
  refine run0 (F := (eL D.int)) (o := .tt) (fb := fb_starts_of) (x := t_starts_of v_net) ?_
  show JR (eL D.int) .tt (fb_starts_of [.fz (eNet v_net), .un, .un]) _
  delta fb_starts_of t_starts_of
  delta s_starts_of at h
  exact sqB (ctx := fun (v_found_1 : (List Int)) => [.fz (eNet v_net), .ow ((eL D.int) v_found_1), .un]) (sSetO (mlst a0) rfl) h (fun v_found_1 h => sqB (ctx := fun (z9 : ((List Int))) => [.fz (eNet v_net), .ow ((eL D.int) z9), .un]) (S := fun _ => True) (forN (F := D.int) (ctx := fun (z2 : ((List Int))) => [.fz (eNet v_net), .ow ((eL D.int) z2), .un]) (i_r1 (a1 (c1 (a1 (mfz (cN (x1 (vf 0 rfl) x0) rfl rfl (e_stands_of (v_net := v_net) h.1 :) rfl)) a0) (o_lenL (F := eStand))) a0) h.2.1) h.2.2 (fun z2 xv3 h => ⟨_, rfl, sqB (ctx := fun (z8 : ((List Int))) => [.fz (eNet v_net), .ow ((eL D.int) z8), zI xv3]) (S := fun _ => True) (ifJ (ctx := fun (z7 : ((List Int))) => [.fz (eNet v_net), .ow ((eL D.int) z7), zI xv3]) (v := bd (z2 ++ [xv3]) (fun (v_found_6 : (List Int)) => v_found_6)) (w := z2) (orr (tst (b2 (mfz (cN (x1 (vf 0 rfl) (x1 (vf 2 rfl) x0)) rfl rfl (e_from_outside (v_net := v_net) (v_stand := xv3) h.1 :) rfl)) rfl ((o_ne (F := fq) (x := (t_from_outside v_net xv3)) (y := (0 : Rat)) gQ)))) (fun hc4 => tst (b2 (mfz (cN (x1 (vf 0 rfl) (x1 (vf 2 rfl) x0)) rfl rfl (e_begin_count (v_net := v_net) (v_stand := xv3) (h.2.1 hc4) :) rfl)) rfl rfl))) (fun hc => (bdh (h.2.2 hc) (fun h => jnE (ctx := fun (z7 : ((List Int))) => [.fz (eNet v_net), .ow ((eL D.int) z7), zI xv3]) (s := bd (z2 ++ [xv3]) (fun (v_found_6 : (List Int)) => v_found_6)) (sqB (ctx := fun (v_found_6 : (List Int)) => [.fz (eNet v_net), .ow ((eL D.int) v_found_6), zI xv3]) (S := fun _ => True) (sApp (i := 1) (F := D.int) (xs := z2) (v := xv3) (vf 2 rfl) ⟨_, rfl⟩ rfl h rfl) trivial (fun v_found_6 _ => rfl))))) (fun _ => jnE (ctx := fun (z7 : ((List Int))) => [.fz (eNet v_net), .ow ((eL D.int) z7), zI xv3]) (s := z2) rfl)) trivial (fun z8 _ => sq (sKill (show _ = [.fz (eNet v_net), .ow ((eL D.int) z8), .un] from rfl)) rfl)⟩)) trivial (fun z9 _ => sRet (mv_ow (i := 1) rfl) (jr_mk rfl)))
noncomputable def fb_reached : M Fl :=
  mRet (mSortI (mCons (mFz (mListD (mCons (mFz (mCallN 2 none fn_steps_to (xV (mVar 0) (xV (mFz (mCallN 1 none fn_starts_of (xV (mVar 0) xNil))) xNil)))) mNil))) mNil))
noncomputable def fn_reached : List D → Rf := runF none 1 fb_reached
noncomputable def t_reached (v_net : Net) : (List Int) :=
  (PySem.W.sortI ((keysA ((t_steps_to v_net ((t_starts_of v_net)))))))
def s_reached (v_net : Net) : Prop :=
  ((s_starts_of v_net) ∧ (s_steps_to v_net ((t_starts_of v_net))))
theorem e_reached {v_net : Net} (h : s_reached v_net) : fn_reached [eNet v_net] = .ok ((eL D.int) (t_reached v_net)) .tt .non := by
  refine run0 (F := (eL D.int)) (o := .tt) (fb := fb_reached) (x := t_reached v_net) ?_
  show JR (eL D.int) .tt (fb_reached [.fz (eNet v_net)]) _
  delta fb_reached t_reached
  delta s_reached at h
  exact sRet (t_sortI (a1 (mfz (t_listD (F := D.int) (a1 (mfz (cN (x1 (vf 0 rfl) (x1 (mfz (cN (x1 (vf 0 rfl) x0) rfl rfl (e_starts_of (v_net := v_net) h.1 :) rfl)) x0)) rfl rfl (e_steps_to (v_net := v_net) (v_starts := (t_starts_of v_net)) h.2 :) rfl)) a0))) a0)) (jr_mk rfl)
noncomputable def fb_may_leave : M Fl :=
  mRet (mOf (mBin dNe (mFz (mLc [2] (mIter (mFz (mCallN 2 none fn_can_go (xV (mVar 0) (xV (mVar 1) xNil))))) (gN 2) (mTest (mBin dNe (mFz (mCallN 2 none fn_left_over (xV (mVar 0) (xV (mVar 2) xNil)))) (M.pure (.tup [(.int 0), (.int 1)])))) (mVar 2))) (mFz (mLst mNil))))
noncomputable def fn_may_leave : List D → Rf := runF none 3 fb_may_leave
noncomputable def t_may_leave (v_net : Net) (v_stand : Int) : Bool :=
  (!decide ((((t_can_go v_net v_stand).filter (fun (xv1 : Int) => (!decide ((t_left_over v_net xv1) = (0 : Rat))))).map (fun (xv1 : Int) => xv1)) = ([] : List Int)))
def s_may_leave (v_net : Net) (v_stand : Int) : Prop :=
  ((s_can_go v_net v_stand) ∧ (∀ xv1 ∈ (t_can_go v_net v_stand), (s_left_over v_net xv1)) ∧ (((t_can_go v_net v_stand)).length ≤ 10000))
theorem e_may_leave {v_net : Net} {v_stand : Int} (h : s_may_leave v_net v_stand) : fn_may_leave [eNet v_net, D.int v_stand] = .ok (D.bl (t_may_leave v_net v_stand)) .ff .non := by
  refine run0 (F := D.bl) (o := .ff) (fb := fb_may_leave) (x := t_may_leave v_net v_stand) ?_
  show JR D.bl .ff (fb_may_leave [.fz (eNet v_net), zI v_stand, .un]) _
  delta fb_may_leave t_may_leave
  delta s_may_leave at h
  exact sRet (mof (b2 (mfz (lcP (F := D.int) (G := D.int) (p := fun (xv1 : Int) => (!decide ((t_left_over v_net xv1) = (0 : Rat)))) (φ := fun (xv1 : Int) => xv1) (ρ1 := [.fz (eNet v_net), zI v_stand, .un]) (i_L (F := D.int) (mfz (cN (x1 (vf 0 rfl) (x1 (vf 1 rfl) x0)) rfl rfl (e_can_go (v_net := v_net) (v_stand := v_stand) h.1 :) rfl))) rfl (fun xv1 hx2 => ⟨_, rfl, tst (b2 (mfz (cN (x1 (vf 0 rfl) (x1 (vf 2 rfl) x0)) rfl rfl (e_left_over (v_net := v_net) (v_stand := xv1) (h.2.1 xv1 hx2) :) rfl)) rfl ((o_ne (F := fq) (x := (t_left_over v_net xv1)) (y := (0 : Rat)) gQ))), rfl, fun hc3 => ⟨_, vf 2 rfl, rfl⟩⟩) h.2.2 rfl)) (mfz (mlst a0)) ((o_ne (F := (eL D.int)) (x := (((t_can_go v_net v_stand).filter (fun (xv1 : Int) => (!decide ((t_left_over v_net xv1) = (0 : Rat))))).map (fun (xv1 : Int) => xv1))) (y := ([] : List Int)) (gL gI))))) (jr_mk rfl)
noncomputable def fb_staying : M Fl :=
  mSeq (mIf (mNot (mTest (mFz (mCallN 1 none fn_is_open (xV (mVar 0) xNil))))) (mRet (mLst mNil)) mNx)
    (mRet (mLc [1] (mRange1 (mCons (mCall dLen (mCons (mFz (mCallN 1 none fn_stands_of (xV (mVar 0) xNil))) mNil)) mNil)) (gN 1) (mNot (mTest (mFz (mCallN 2 none fn_may_leave (xV (mVar 0) (xV (mVar 1) xNil)))))) (mVar 1)))
noncomputable def fn_staying : List D → Rf := runF none 2 fb_staying
noncomputable def t_staying (v_net : Net) : (List Int) :=
  cond (!(t_is_open v_net)) ([] : List Int) (((rangeI 0 ((((t_stands_of v_net)).length : Int))).filter (fun (xv1 : Int) => (!(t_may_leave v_net xv1)))).map (fun (xv1 : Int) => xv1))
def s_staying (v_net : Net) : Prop :=
  ((s_is_open v_net) ∧ ((!(t_is_open v_net)) = false → ((s_stands_of v_net) ∧ (-100000000 < ((((t_stands_of v_net)).length : Int)) ∧ ((((t_stands_of v_net)).length : Int)) < 100000000) ∧ (∀ xv1 ∈ (rangeI 0 ((((t_stands_of v_net)).length : Int))), (s_may_leave v_net xv1)) ∧ (((rangeI 0 ((((t_stands_of v_net)).length : Int)))).length ≤ 10000))))
theorem e_staying {v_net : Net} (h : s_staying v_net) : fn_staying [eNet v_net] = .ok ((eL D.int) (t_staying v_net)) .tt .non := by
  refine run0 (F := (eL D.int)) (o := .tt) (fb := fb_staying) (x := t_staying v_net) ?_
  show JR (eL D.int) .tt (fb_staying [.fz (eNet v_net), .un]) _
  delta fb_staying t_staying
  delta s_staying at h
  exact sqIf (nt (tst (mfz (cN (x1 (vf 0 rfl) x0) rfl rfl (e_is_open (v_net := v_net) h.1 :) rfl)))) (fun _ => sqRet (mlst a0) (jr_mk rfl)) (fun hc => bdh (h.2 hc) (fun h => sq rfl (sRet (lcP (F := D.int) (G := D.int) (p := fun (xv1 : Int) => (!(t_may_leave v_net xv1))) (φ := fun (xv1 : Int) => xv1) (ρ1 := [.fz (eNet v_net), .un]) (i_r1 (a1 (c1 (a1 (mfz (cN (x1 (vf 0 rfl) x0) rfl rfl (e_stands_of (v_net := v_net) h.1 :) rfl)) a0) (o_lenL (F := eStand))) a0) h.2.1) rfl (fun xv1 hx2 => ⟨_, rfl, nt (tst (mfz (cN (x1 (vf 0 rfl) (x1 (vf 1 rfl) x0)) rfl rfl (e_may_leave (v_net := v_net) (v_stand := xv1) (h.2.2.1 xv1 hx2) :) rfl))), rfl, fun hc3 => ⟨_, vf 1 rfl, rfl⟩⟩) h.2.2.2 rfl) (jr_mk rfl))))
noncomputable def fb_one_way : M Fl :=
  mSeq (mSet 1 (mLst mNil))
    (mSeq (mFor (mRange1 (mCons (mCall dLen (mCons (mFz (mCallN 1 none fn_stands_of (xV (mVar 0) xNil))) mNil)) mNil)) (gN 2) (mSeq (mFor (mIter (mFz (mCallN 2 none fn_goals (xV (mVar 0) (xV (mVar 2) xNil))))) (gN 3) (mSeq (mIf (mTest (mBin (dIn true) (mVar 2) (mFz (mCallN 2 none fn_can_go (xV (mVar 0) (xV (mVar 3) xNil)))))) (mSeq (mApp1 1 (mTup (mCons (mVar 2) (mCons (mVar 3) mNil))))
    mNx) mNx)
    (mSeq (mKill [3]) mNx)))
    (mSeq (mKill [2]) mNx)))
    (mRet (mMove 1)))
noncomputable def fn_one_way : List D → Rf := runF none 4 fb_one_way
noncomputable def t_one_way (v_net : Net) : (List (Int × Int)) :=
  bd ([] : List (Int × Int)) (fun (v_found_1 : (List (Int × Int))) => bd ((rangeI 0 ((((t_stands_of v_net)).length : Int))).foldl (fun (z2 : ((List (Int × Int)))) (xv3 : Int) => bd ((t_goals v_net xv3).foldl (fun (z4 : ((List (Int × Int)))) (xv5 : Int) => bd (cond (!decide (xv3 ∈ (t_can_go v_net xv5))) (bd (z4 ++ [(xv3, xv5)]) (fun (v_found_7 : (List (Int × Int))) => v_found_7)) z4) (fun (z9 : ((List (Int × Int)))) => z9)) z2) (fun (z10 : ((List (Int × Int)))) => z10)) v_found_1) (fun (z11 : ((List (Int × Int)))) => z11))
def s_one_way (v_net : Net) : Prop :=
  bd ([] : List (Int × Int)) (fun (v_found_1 : (List (Int × Int))) => ((s_stands_of v_net) ∧ (-100000000 < ((((t_stands_of v_net)).length : Int)) ∧ ((((t_stands_of v_net)).length : Int)) < 100000000) ∧ (sfl (fun (z2 : ((List (Int × Int)))) (xv3 : Int) => bd ((t_goals v_net xv3).foldl (fun (z4 : ((List (Int × Int)))) (xv5 : Int) => bd (cond (!decide (xv3 ∈ (t_can_go v_net xv5))) (bd (z4 ++ [(xv3, xv5)]) (fun (v_found_7 : (List (Int × Int))) => v_found_7)) z4) (fun (z9 : ((List (Int × Int)))) => z9)) z2) (fun (z10 : ((List (Int × Int)))) => z10)) (fun (z2 : ((List (Int × Int)))) (xv3 : Int) => ((s_goals v_net xv3) ∧ (sfl (fun (z4 : ((List (Int × Int)))) (xv5 : Int) => bd (cond (!decide (xv3 ∈ (t_can_go v_net xv5))) (bd (z4 ++ [(xv3, xv5)]) (fun (v_found_7 : (List (Int × Int))) => v_found_7)) z4) (fun (z9 : ((List (Int × Int)))) => z9)) (fun (z4 : ((List (Int × Int)))) (xv5 : Int) => ((s_can_go v_net xv5) ∧ ((!decide (xv3 ∈ (t_can_go v_net xv5))) = true → (z4.length < 10000)))) (t_goals v_net xv3) z2))) (rangeI 0 ((((t_stands_of v_net)).length : Int))) v_found_1)))
theorem e_one_way {v_net : Net} (h : s_one_way v_net) : fn_one_way [eNet v_net] = .ok ((eL (eT2 D.int D.int)) (t_one_way v_net)) .tt .non := by
  refine run0 (F := (eL (eT2 D.int D.int))) (o := .tt) (fb := fb_one_way) (x := t_one_way v_net) ?_
  show JR (eL (eT2 D.int D.int)) .tt (fb_one_way [.fz (eNet v_net), .un, .un, .un]) _
  delta fb_one_way t_one_way
  delta s_one_way at h
  exact sqB (ctx := fun (v_found_1 : (List (Int × Int))) => [.fz (eNet v_net), .ow ((eL (eT2 D.int D.int)) v_found_1), .un, .un]) (sSetO (mlst a0) rfl) h (fun v_found_1 h => sqB (ctx := fun (z11 : ((List (Int × Int)))) => [.fz (eNet v_net), .ow ((eL (eT2 D.int D.int)) z11), .un, .un]) (S := fun _ => True) (forN (F := D.int) (ctx := fun (z2 : ((List (Int × Int)))) => [.fz (eNet v_net), .ow ((eL (eT2 D.int D.int)) z2), .un, .un]) (i_r1 (a1 (c1 (a1 (mfz (cN (x1 (vf 0 rfl) x0) rfl rfl (e_stands_of (v_net := v_net) h.1 :) rfl)) a0) (o_lenL (F := eStand))) a0) h.2.1) h.2.2 (fun z2 xv3 h => ⟨_, rfl, sqB (ctx := fun (z10 : ((List (Int × Int)))) => [.fz (eNet v_net), .ow ((eL (eT2 D.int D.int)) z10), zI xv3, .un]) (S := fun _ => True) (forN (F := D.int) (ctx := fun (z4 : ((List (Int × Int)))) => [.fz (eNet v_net), .ow ((eL (eT2 D.int D.int)) z4), zI xv3, .un]) (i_L (F := D.int) (mfz (cN (x1 (vf 0 rfl) (x1 (vf 2 rfl) x0)) rfl rfl (e_goals (v_net := v_net) (v_stand := xv3) h.1 :) rfl))) h.2 (fun z4 xv5 h => ⟨_, rfl, sqB (ctx := fun (z9 : ((List (Int × Int)))) => [.fz (eNet v_net), .ow ((eL (eT2 D.int D.int)) z9), zI xv3, zI xv5]) (S := fun _ => True) (ifJ (ctx := fun (z8 : ((List (Int × Int)))) => [.fz (eNet v_net), .ow ((eL (eT2 D.int D.int)) z8), zI xv3, zI xv5]) (v := bd (z4 ++ [(xv3, xv5)]) (fun (v_found_7 : (List (Int × Int))) => v_found_7)) (w := z4) (tst (b2 (vf 2 rfl) (mfz (cN (x1 (vf 0 rfl) (x1 (vf 3 rfl) x0)) rfl rfl (e_can_go (v_net := v_net) (v_stand := xv5) h.1 :) rfl)) (o_ninI (x := xv3) (ys := (t_can_go v_net xv5))))) (fun hc => (bdh (h.2 hc) (fun h => jnE (ctx := fun (z8 : ((List (Int × Int)))) => [.fz (eNet v_net), .ow ((eL (eT2 D.int D.int)) z8), zI xv3, zI xv5]) (s := bd (z4 ++ [(xv3, xv5)]) (fun (v_found_7 : (List (Int × Int))) => v_found_7)) (sqB (ctx := fun (v_found_7 : (List (Int × Int))) => [.fz (eNet v_net), .ow ((eL (eT2 D.int D.int)) v_found_7), zI xv3, zI xv5]) (S := fun _ => True) (sApp (i := 1) (F := (eT2 D.int D.int)) (xs := z4) (v := (xv3, xv5)) (mtup (a1 (vf 2 rfl) (a1 (vf 3 rfl) a0))) ⟨_, rfl⟩ rfl h rfl) trivial (fun v_found_7 _ => rfl))))) (fun _ => jnE (ctx := fun (z8 : ((List (Int × Int)))) => [.fz (eNet v_net), .ow ((eL (eT2 D.int D.int)) z8), zI xv3, zI xv5]) (s := z4) rfl)) trivial (fun z9 _ => sq (sKill (show _ = [.fz (eNet v_net), .ow ((eL (eT2 D.int D.int)) z9), zI xv3, .un] from rfl)) rfl)⟩)) trivial (fun z10 _ => sq (sKill (show _ = [.fz (eNet v_net), .ow ((eL (eT2 D.int D.int)) z10), .un, .un] from rfl)) rfl)⟩)) trivial (fun z11 _ => sRet (mv_ow (i := 1) rfl) (jr_mk rfl)))
noncomputable def fb_is_sound : M Fl :=
  mSeq (mIf (mTest (mFz (mCallN 1 none fn_is_open (xV (mVar 0) xNil)))) (mRet (mOf (mAndV (mBin dEq (mCall dLen (mCons (mFz (mCallN 1 none fn_reached (xV (mVar 0) xNil))) mNil)) (mCall dLen (mCons (mFz (mCallN 1 none fn_stands_of (xV (mVar 0) xNil))) mNil))) (mBin dEq (mFz (mCallN 1 none fn_staying (xV (mVar 0) xNil))) (mFz (mLst mNil)))))) mNx)
    (mRet (mOf (mBin dEq (mFz (mCallN 1 none fn_one_way (xV (mVar 0) xNil))) (mFz (mLst mNil)))))
noncomputable def fn_is_sound : List D → Rf := runF none 1 fb_is_sound
noncomputable def t_is_sound (v_net : Net) : Bool :=
  cond (t_is_open v_net) ((decide ((((t_reached v_net)).length : Int) = (((t_stands_of v_net)).length : Int))) && (decide ((t_staying v_net) = ([] : List Int)))) (decide ((t_one_way v_net) = ([] : List (Int × Int))))
def s_is_sound (v_net : Net) : Prop :=
  ((s_is_open v_net) ∧ ((t_is_open v_net) = true → ((s_reached v_net) ∧ (s_stands_of v_net) ∧ ((decide ((((t_reached v_net)).length : Int) = (((t_stands_of v_net)).length : Int))) = true → (s_staying v_net)))) ∧ ((t_is_open v_net) = false → (s_one_way v_net)))
theorem e_is_sound {v_net : Net} (h : s_is_sound v_net) : fn_is_sound [eNet v_net] = .ok (D.bl (t_is_sound v_net)) .ff .non := by
  refine run0 (F := D.bl) (o := .ff) (fb := fb_is_sound) (x := t_is_sound v_net) ?_
  show JR D.bl .ff (fb_is_sound [.fz (eNet v_net)]) _
  delta fb_is_sound t_is_sound
  delta s_is_sound at h
  exact sqIf (tst (mfz (cN (x1 (vf 0 rfl) x0) rfl rfl (e_is_open (v_net := v_net) h.1 :) rfl))) (fun hc => bdh (h.2.1 hc) (fun h => sqRet (mof (anV (b2 (c1 (a1 (mfz (cN (x1 (vf 0 rfl) x0) rfl rfl (e_reached (v_net := v_net) h.1 :) rfl)) a0) (o_lenL (F := D.int))) (c1 (a1 (mfz (cN (x1 (vf 0 rfl) x0) rfl rfl (e_stands_of (v_net := v_net) h.2.1 :) rfl)) a0) (o_lenL (F := eStand))) dEq_i) (fun hc1 => b2 (mfz (cN (x1 (vf 0 rfl) x0) rfl rfl (e_staying (v_net := v_net) (h.2.2 hc1) :) rfl)) (mfz (mlst a0)) ((o_eq (F := (eL D.int)) (x := (t_staying v_net)) (y := ([] : List Int)) (gL gI)))))) (jr_mk rfl))) (fun hc => bdh (h.2.2 hc) (fun h => sq rfl (sRet (mof (b2 (mfz (cN (x1 (vf 0 rfl) x0) rfl rfl (e_one_way (v_net := v_net) h :) rfl)) (mfz (mlst a0)) ((o_eq (F := (eL (eT2 D.int D.int))) (x := (t_one_way v_net)) (y := ([] : List (Int × Int))) (gL (gT2 gI gI)))))) (jr_mk rfl))))
noncomputable def fb_ask_sound : M Fl :=
  mSeq (mIf (mNot (mTest (mFz (mCallN 1 none fn_is_sound (xV (mVar 0) xNil))))) (M.raise "Unsound") mNx)
    mNx
noncomputable def fn_ask_sound : List D → Rf := runF none 1 fb_ask_sound
noncomputable def t_ask_sound (v_net : Net) : Unit :=
  cond (!(t_is_sound v_net)) default ()
def s_ask_sound (v_net : Net) : Prop :=
  ((s_is_sound v_net) ∧ ((!(t_is_sound v_net)) = true → False))
theorem e_ask_sound {v_net : Net} (h : s_ask_sound v_net) : fn_ask_sound [eNet v_net] = .ok (eN (t_ask_sound v_net)) .ff .non := by
  refine runE (fb := fb_ask_sound) (x := t_ask_sound v_net) ?_
  show JE (fb_ask_sound [.fz (eNet v_net)]) _
  delta fb_ask_sound t_ask_sound
  delta s_ask_sound at h
  exact sqIf (nt (tst (mfz (cN (x1 (vf 0 rfl) x0) rfl rfl (e_is_sound (v_net := v_net) h.1 :) rfl)))) (fun hc => bdh (h.2 hc) (fun h => h.elim)) (fun _ => sq rfl (⟨_, rfl⟩))
noncomputable def fb_crowd_of : M Fl :=
  mSeq (mSet 1 (mLst mNil))
    (mSeq (mSet 2 (mLst mNil))
    (mSeq (mFor (mRange1 (mCons (mCall dLen (mCons (mFz (mCallN 1 none fn_stands_of (xV (mVar 0) xNil))) mNil)) mNil)) (gN 3) (mSeq (mSet 4 (mOf (mBin dIx (mFz (mCallN 2 none fn_can_go (xV (mVar 0) (xV (mVar 3) xNil)))) (M.pure (.int 0)))))
    (mSeq (mIf (mTest (mBin dEq (mVar 4) (mVar 3))) (mSeq (mApp1 2 (mVar 3))
    mNx) mNx)
    (mSeq (mApp1 1 (mIndexL 2 (mVar 4)))
    (mSeq (mKill [3, 4]) mNx)))))
    (mRet (mMove 1))))
noncomputable def fn_crowd_of : List D → Rf := runF none 5 fb_crowd_of
noncomputable def t_crowd_of (v_net : Net) : (List Int) :=
  bd ([] : List Int) (fun (v_found_1 : (List Int)) => bd ([] : List Int) (fun (v_least_2 : (List Int)) => bd ((rangeI 0 ((((t_stands_of v_net)).length : Int))).foldl (fun (z3 : ((List Int) × (List Int))) (xv4 : Int) => bd (ix ((t_can_go v_net xv4)) ((0 : Int))) (fun (v_first_5 : Int) => bd (cond (decide (v_first_5 = xv4)) (bd (z3.2 ++ [xv4]) (fun (v_least_7 : (List Int)) => v_least_7)) z3.2) (fun (z9 : ((List Int))) => bd (z3.1 ++ [((fstI z9 v_first_5 : Nat) : Int)]) (fun (v_found_10 : (List Int)) => (v_found_10, z9))))) (v_found_1, v_least_2)) (fun (z11 : ((List Int) × (List Int))) => z11.1)))
def s_crowd_of (v_net : Net) : Prop :=
  bd ([] : List Int) (fun (v_found_1 : (List Int)) => bd ([] : List Int) (fun (v_least_2 : (List Int)) => ((s_stands_of v_net) ∧ (-100000000 < ((((t_stands_of v_net)).length : Int)) ∧ ((((t_stands_of v_net)).length : Int)) < 100000000) ∧ (sfl (fun (z3 : ((List Int) × (List Int))) (xv4 : Int) => bd (ix ((t_can_go v_net xv4)) ((0 : Int))) (fun (v_first_5 : Int) => bd (cond (decide (v_first_5 = xv4)) (bd (z3.2 ++ [xv4]) (fun (v_least_7 : (List Int)) => v_least_7)) z3.2) (fun (z9 : ((List Int))) => bd (z3.1 ++ [((fstI z9 v_first_5 : Nat) : Int)]) (fun (v_found_10 : (List Int)) => (v_found_10, z9))))) (fun (z3 : ((List Int) × (List Int))) (xv4 : Int) => ((s_can_go v_net xv4) ∧ (InB ((t_can_go v_net xv4)).length ((0 : Int))) ∧ (bd (ix ((t_can_go v_net xv4)) ((0 : Int))) (fun (v_first_5 : Int) => (((decide (v_first_5 = xv4)) = true → (z3.2.length < 10000)) ∧ (bd (cond (decide (v_first_5 = xv4)) (bd (z3.2 ++ [xv4]) (fun (v_least_7 : (List Int)) => v_least_7)) z3.2) (fun (z9 : ((List Int))) => ((v_first_5 ∈ z9) ∧ (z3.1.length < 10000))))))))) (rangeI 0 ((((t_stands_of v_net)).length : Int))) (v_found_1, v_least_2)))))
theorem e_crowd_of {v_net : Net} (h : s_crowd_of v_net) : fn_crowd_of [eNet v_net] = .ok ((eL D.int) (t_crowd_of v_net)) .tt .non := by
  refine run0 (F := (eL D.int)) (o := .tt) (fb := fb_crowd_of) (x := t_crowd_of v_net) ?_
  show JR (eL D.int) .tt (fb_crowd_of [.fz (eNet v_net), .un, .un, .un, .un]) _
  delta fb_crowd_of t_crowd_of
  delta s_crowd_of at h
  exact sqB (ctx := fun (v_found_1 : (List Int)) => [.fz (eNet v_net), .ow ((eL D.int) v_found_1), .un, .un, .un]) (sSetO (mlst a0) rfl) h (fun v_found_1 h => sqB (ctx := fun (v_least_2 : (List Int)) => [.fz (eNet v_net), .ow ((eL D.int) v_found_1), .ow ((eL D.int) v_least_2), .un, .un]) (sSetO (mlst a0) rfl) h (fun v_least_2 h => sqB (ctx := fun (z11 : ((List Int) × (List Int))) => [.fz (eNet v_net), .ow ((eL D.int) z11.1), .ow ((eL D.int) z11.2), .un, .un]) (S := fun _ => True) (forN (F := D.int) (ctx := fun (z3 : ((List Int) × (List Int))) => [.fz (eNet v_net), .ow ((eL D.int) z3.1), .ow ((eL D.int) z3.2), .un, .un]) (i_r1 (a1 (c1 (a1 (mfz (cN (x1 (vf 0 rfl) x0) rfl rfl (e_stands_of (v_net := v_net) h.1 :) rfl)) a0) (o_lenL (F := eStand))) a0) h.2.1) h.2.2 (fun z3 xv4 h => ⟨_, rfl, sqB (ctx := fun (v_first_5 : Int) => [.fz (eNet v_net), .ow ((eL D.int) z3.1), .ow ((eL D.int) z3.2), zI xv4, zI v_first_5]) (sSet (mof (b2 (mfz (cN (x1 (vf 0 rfl) (x1 (vf 3 rfl) x0)) rfl rfl (e_can_go (v_net := v_net) (v_stand := xv4) h.1 :) rfl)) rfl (o_ixL (F := D.int) (xs := (t_can_go v_net xv4)) h.2.1))) rfl) h.2.2 (fun v_first_5 h => sqB (ctx := fun (z9 : ((List Int))) => [.fz (eNet v_net), .ow ((eL D.int) z3.1), .ow ((eL D.int) z9), zI xv4, zI v_first_5]) (ifJ (ctx := fun (z8 : ((List Int))) => [.fz (eNet v_net), .ow ((eL D.int) z3.1), .ow ((eL D.int) z8), zI xv4, zI v_first_5]) (v := bd (z3.2 ++ [xv4]) (fun (v_least_7 : (List Int)) => v_least_7)) (w := z3.2) (tst (b2 (vf 4 rfl) (vf 3 rfl) dEq_i)) (fun hc => (bdh (h.1 hc) (fun h => jnE (ctx := fun (z8 : ((List Int))) => [.fz (eNet v_net), .ow ((eL D.int) z3.1), .ow ((eL D.int) z8), zI xv4, zI v_first_5]) (s := bd (z3.2 ++ [xv4]) (fun (v_least_7 : (List Int)) => v_least_7)) (sqB (ctx := fun (v_least_7 : (List Int)) => [.fz (eNet v_net), .ow ((eL D.int) z3.1), .ow ((eL D.int) v_least_7), zI xv4, zI v_first_5]) (S := fun _ => True) (sApp (i := 2) (F := D.int) (xs := z3.2) (v := xv4) (vf 3 rfl) ⟨_, rfl⟩ rfl h rfl) trivial (fun v_least_7 _ => rfl))))) (fun _ => jnE (ctx := fun (z8 : ((List Int))) => [.fz (eNet v_net), .ow ((eL D.int) z3.1), .ow ((eL D.int) z8), zI xv4, zI v_first_5]) (s := z3.2) rfl)) h.2 (fun z9 h => sqB (ctx := fun (v_found_10 : (List Int)) => [.fz (eNet v_net), .ow ((eL D.int) v_found_10), .ow ((eL D.int) z9), zI xv4, zI v_first_5]) (S := fun _ => True) (sApp (i := 1) (F := D.int) (xs := z3.1) (v := ((fstI z9 v_first_5 : Nat) : Int)) (t_idx (i := 2) (ns := z9) (chk_ow rfl) rfl (vf 4 rfl) rfl h.1) ⟨_, rfl⟩ rfl h.2 rfl) trivial (fun v_found_10 _ => sq (sKill (show _ = [.fz (eNet v_net), .ow ((eL D.int) v_found_10), .ow ((eL D.int) z9), .un, .un] from rfl)) rfl)))⟩)) trivial (fun z11 _ => sRet (mv_ow (i := 1) rfl) (jr_mk rfl))))
noncomputable def fb_crowd_stands : M Fl :=
  mSeq (mSet 1 (mCallN 1 none fn_crowd_of (xV (mVar 0) xNil)))
    (mSeq (mFrz 1)
    (mSeq (mSet 2 (mLcD [4] (.l .z) (mRange1 (mCons (mBin dAdd (mCall dMaxL (mCons (mVar 1) mNil)) (M.pure (.int 1))) mNil)) (gN 4) (M.pure true) (mLst mNil)))
    (mSeq (mFor (mEnum (mCons (mVar 1) mNil)) (gT 2 (gsC (gN 3) (gsC (gN 4) gsN))) (mSeq (mDeepApp 2 (pIx 2 (pRoot 2) (mVar 4)) (mVar 3))
    (mSeq (mKill [3, 4]) mNx)))
    (mRet (mOf (mVar 2))))))
noncomputable def fn_crowd_stands : List D → Rf := runF none 5 fb_crowd_stands
noncomputable def t_crowd_stands (v_net : Net) : (List (List Int)) :=
  bd (t_crowd_of v_net) (fun (v_numbers_1 : (List Int)) => bd ((rangeI 0 (((maxL v_numbers_1) + (1 : Int)))).map (fun (xv2 : Int) => ([] : List Int))) (fun (v_found_5 : (List (List Int))) => bd ((enumI v_numbers_1).foldl (fun (z6 : ((List (List Int)))) (xv7 : (Int × Int)) => bd (setI z6 xv7.2 (ix z6 xv7.2 ++ [xv7.1])) (fun (v_found_8 : (List (List Int))) => v_found_8)) v_found_5) (fun (z9 : ((List (List Int)))) => z9)))
def s_crowd_stands (v_net : Net) : Prop :=
  ((s_crowd_of v_net) ∧ (bd (t_crowd_of v_net) (fun (v_numbers_1 : (List Int)) => ((v_numbers_1 ≠ []) ∧ (-100000000 < (((maxL v_numbers_1) + (1 : Int))) ∧ (((maxL v_numbers_1) + (1 : Int))) < 100000000) ∧ (((rangeI 0 (((maxL v_numbers_1) + (1 : Int))))).length ≤ 10000) ∧ (bd ((rangeI 0 (((maxL v_numbers_1) + (1 : Int)))).map (fun (xv2 : Int) => ([] : List Int))) (fun (v_found_5 : (List (List Int))) => (sfl (fun (z6 : ((List (List Int)))) (xv7 : (Int × Int)) => bd (setI z6 xv7.2 (ix z6 xv7.2 ++ [xv7.1])) (fun (v_found_8 : (List (List Int))) => v_found_8)) (fun (z6 : ((List (List Int)))) (xv7 : (Int × Int)) => ((InB z6.length xv7.2) ∧ ((ix z6 xv7.2).length < 10000))) (enumI v_numbers_1) v_found_5)))))))
noncomputable def t_crowds (v_net : Net) : (List ((List Int) × Int)) :=
  cond (t_is_open v_net) default ((t_crowd_stands v_net).map (fun (xv1 : (List Int)) => (xv1, ((xv1.map (fun (xv2 : Int) => (t_begin_count v_net xv2)))).sum)))
def s_crowds (v_net : Net) : Prop :=
  ((s_ask_sound v_net) ∧ (((s_is_open v_net) ∧ ((t_is_open v_net) = true → False) ∧ ((t_is_open v_net) = false → ((s_crowd_stands v_net) ∧ (∀ xv1 ∈ (t_crowd_stands v_net), (((∀ xv2 ∈ xv1, ((s_begin_count v_net xv2))) ∧ (xv1.length ≤ 10000)))) ∧ (((t_crowd_stands v_net)).length ≤ 10000))))))
end Look
namespace Look
open PySem L2 Dt Std Net
inductive Wk (g : Int → List Int) (S : List Int) : Int → Nat → Prop
  | start {s : Int} : s ∈ S → Wk g S s 0
  | step {u t : Int} {m : Nat} : Wk g S u m → t ∈ g u → Wk g S t (m + 1)
section
variable {g : Int → List Int} {n : Nat} {S : List Int}
structure Bf (g : Int → List Int) (n : Nat) (S : List Int) (fd : List (Int × Int)) : Prop where
  nd : (fd.map (·.1)).Nodup
  rg : ∀ p ∈ fd, 0 ≤ p.1 ∧ p.1 < n
  wk : ∀ p ∈ fd, ∃ m : Nat, p.2 = m ∧ Wk g S p.1 m
  up : fd.Pairwise (fun a b => a.2 ≤ b.2)
  st : ∀ s ∈ S, (s, (0 : Int)) ∈ fd
theorem pw_lt {xs : List Int} (h : xs.Pairwise (· ≤ ·)) (n : xs.Nodup) : xs.Pairwise (· < ·) := by
  rw [List.pairwise_iff_getElem] at h ⊢
  intro i j hi hj hij
  have h1 := h i j hi hj hij
  have h2 := (List.pairwise_iff_getElem.mp n) i j hi hj hij
  omega
theorem sort_lt {xs : List Int} (n : xs.Nodup) : (PySem.W.sortI xs).Pairwise (· < ·) := pw_lt (PySem.W.sortI_rises xs) ((PySem.W.sortI_perm xs).nodup_iff.mpr n)
theorem mem_sort {xs : List Int} {x : Int} : x ∈ PySem.W.sortI xs ↔ x ∈ xs := (PySem.W.sortI_perm xs).mem_iff
theorem len_sort {xs : List Int} : (PySem.W.sortI xs).length = xs.length := (PySem.W.sortI_perm xs).length_eq
theorem nodup_len {xs : List Int} {n : Nat} (nd : xs.Nodup) (h : ∀ x ∈ xs, 0 ≤ x ∧ x < n) : xs.length ≤ n := by
  have := rising_len (n := n) (xs := PySem.W.sortI xs) (lo := 0) (fun x hx => h x (mem_sort.mp hx)) (sort_lt nd) (by decide) (by omega)
  rw [len_sort] at this; omega
theorem Bf.len {fd : List (Int × Int)} (b : Bf g n S fd) : fd.length ≤ n := by
  have := nodup_len (n := n) b.nd (fun x hx => by obtain ⟨p, hp, rfl⟩ := List.mem_map.mp hx; exact b.rg p hp)
  rwa [List.length_map] at this
theorem lk_mem : ∀ {fd : List (Int × Int)} {u d : Int}, (fd.map (·.1)).Nodup → (u, d) ∈ fd → lkA fd u = some d
  | [], _, _, _, h => by simp at h
  | p :: r, u, d, nd, h => by
    rw [List.map_cons, List.nodup_cons] at nd
    unfold lkA
    rcases List.mem_cons.mp h with e | h
    · rw [← e]; simp
    · have : p.1 ≠ u := fun z => nd.1 (by rw [z]; exact List.mem_map.mpr ⟨_, h, rfl⟩)
      rw [if_neg this]; exact lk_mem nd.2 h
theorem get_mem {fd : List (Int × Int)} {u d : Int} (nd : (fd.map (·.1)).Nodup) (h : (u, d) ∈ fd) : getA fd u = d := by
  unfold getA; rw [lk_mem nd h]; rfl
theorem put_new {fd : List (Int × Int)} {u d : Int} (h : u ∉ fd.map (·.1)) : putA fd u d = fd ++ [(u, d)] := by
  unfold putA; rw [if_neg h]
theorem Bf.snoc {fd : List (Int × Int)} {u t d : Int} (b : Bf g n S fd) (hu : (u, d) ∈ fd) (ht : t ∈ g u) (hr : 0 ≤ t ∧ t < n) (nt : t ∉ fd.map (·.1)) (hv : ∀ p ∈ fd, p.2 ≤ d + 1) : Bf g n S (fd ++ [(t, d + 1)]) := by
  refine ⟨?_, ?_, ?_, ?_, fun s hs => List.mem_append_left _ (b.st s hs)⟩
  · rw [List.map_append, List.nodup_append]
    exact ⟨b.nd, by simp, fun a ha c hc e => nt (by rw [List.map_cons, List.map_nil, List.mem_singleton] at hc; have hc' : c = t := hc; rw [← hc', ← e]; exact ha)⟩
  · intro p hp
    rcases List.mem_append.mp hp with hp | hp
    · exact b.rg p hp
    · rw [List.mem_singleton] at hp; rw [hp]; exact hr
  · intro p hp
    rcases List.mem_append.mp hp with hp | hp
    · exact b.wk p hp
    · rw [List.mem_singleton] at hp; rw [hp]
      obtain ⟨m, e, w⟩ := b.wk _ hu
      exact ⟨m + 1, by dsimp only at e ⊢; omega, .step w ht⟩
  · rw [List.pairwise_append]
    exact ⟨b.up, List.pairwise_singleton _ _, fun p hp q hq => by rw [List.mem_singleton] at hq; rw [hq]; exact hv p hp⟩
structure Found (g : Int → List Int) (n : Nat) (S : List Int) (fd : List (Int × Int)) : Prop where
  bf : Bf g n S fd
  all : ∀ t m, Wk g S t m → ∃ v, (t, v) ∈ fd ∧ v ≤ (m : Int)
theorem Found.mem {fd : List (Int × Int)} (h : Found g n S fd) {t : Int} : t ∈ keysA fd ↔ ∃ m, Wk g S t m := by
  constructor
  · intro ht
    obtain ⟨p, hp, rfl⟩ := List.mem_map.mp ht
    obtain ⟨m, _, w⟩ := h.bf.wk p hp
    exact ⟨m, w⟩
  · rintro ⟨m, w⟩
    obtain ⟨v, hv, _⟩ := h.all t m w
    exact List.mem_map.mpr ⟨_, hv, rfl⟩
end
section
variable {net : Net} {n : Nat} {S : List Int}
structure Goes (net : Net) : Prop where
  n12 : net.2.1.length ≤ 12
  wl : ∀ s ∈ net.2.1, s.2.2.length ≤ 12
  rg : ∀ s ∈ net.2.1, ∀ w ∈ s.2.2, 0 ≤ w.1 ∧ w.1 < net.2.1.length
abbrev gl (net : Net) : Int → List Int := fun u => (ix net.2.1 u).2.2.map (·.1)
theorem Goes.s (G : Goes net) {u : Int} (h0 : 0 ≤ u) (h1 : u < net.2.1.length) : s_goals net u ∧ ∀ t ∈ gl net u, 0 ≤ t ∧ t < net.2.1.length := by
  have ib := inB_nat h0 h1
  have hm := ix_mem ib
  refine ⟨⟨ib, ?_⟩, fun t ht => ?_⟩
  · show (ix net.2.1 u).2.2.length ≤ 10000
    have := G.wl _ hm; omega
  · obtain ⟨w, hw, rfl⟩ := List.mem_map.mp ht
    exact G.rg _ hm w hw
def bstep (u : Int) (z10 : List (Int × Int) × List Int) (t : Int) : List (Int × Int) × List Int :=
  bd (cond (!hasA z10.1 t) (bd (putA z10.1 t ((getA z10.1 u) + 1)) (fun (f : (List (Int × Int))) => bd (z10.2 ++ [t]) (fun (w : (List Int)) => (f, w)))) (z10.1, z10.2)) (fun (z17 : ((List (Int × Int)) × (List Int))) => (z17.1, z17.2))
def bS (u : Int) (z10 : List (Int × Int) × List Int) (t : Int) : Prop :=
  ((!hasA z10.1 t) = true → ((u ∈ keysA z10.1) ∧ (z10.1.length < 10000) ∧ (bd (putA z10.1 t ((getA z10.1 u) + 1)) (fun (f : (List (Int × Int))) => (z10.2.length < 10000)))))
structure Inn (g : Int → List Int) (n : Nat) (S : List Int) (fd : List (Int × Int)) (u d : Int) (z : List (Int × Int) × List Int) : Prop where
  bf : Bf g n S z.1
  kw : z.2 = z.1.map (·.1)
  pre : ∃ new, z.1 = fd ++ new
  hv : ∀ p ∈ z.1, p.2 ≤ d + 1
  hu : (u, d) ∈ z.1
theorem inner_ok {g : Int → List Int} {fd : List (Int × Int)} {u d : Int} (hn : n ≤ 12) : ∀ (gs : List Int) (z : List (Int × Int) × List Int), (∀ t ∈ gs, t ∈ g u ∧ 0 ≤ t ∧ t < n) → Inn g n S fd u d z →
    sfl (bstep u) (bS u) gs z ∧ Inn g n S fd u d (gs.foldl (bstep u) z) ∧ (∀ p ∈ z.1, p ∈ (gs.foldl (bstep u) z).1) ∧ ∀ t ∈ gs, ∃ v, (t, v) ∈ (gs.foldl (bstep u) z).1 ∧ v ≤ d + 1
  | [], z, _, I => ⟨trivial, I, fun _ h => h, fun t h => nomatch h⟩
  | t :: gs, (fz, wz), hg, I => by
    obtain ⟨bz, ew, ⟨new, en⟩, hv, hu⟩ := I
    dsimp only at bz ew en hv hu
    have hgt := get_mem bz.nd hu
    have bl2 := bz.len
    obtain ⟨g1, g2⟩ := hg t (by simp)
    have st : bS u (fz, wz) t := fun _ => ⟨List.mem_map.mpr ⟨_, hu, rfl⟩, by dsimp only; omega, by
      show wz.length < 10000
      rw [ew, List.length_map]; omega⟩
    have one : Inn g n S fd u d (bstep u (fz, wz) t) ∧ (∀ p ∈ fz, p ∈ (bstep u (fz, wz) t).1) ∧ ∃ v, (t, v) ∈ (bstep u (fz, wz) t).1 ∧ v ≤ d + 1 := by
      cases hh : hasA fz t with
      | true =>
        have e : bstep u (fz, wz) t = (fz, wz) := by unfold bstep bd; dsimp only; rw [hh]; rfl
        rw [e]
        have hin : t ∈ fz.map (·.1) := of_decide_eq_true hh
        obtain ⟨p, hp, e2⟩ := List.mem_map.mp hin
        exact ⟨⟨bz, ew, ⟨new, en⟩, hv, hu⟩, fun p h => h, p.2, by rw [← e2]; exact hp, hv p hp⟩
      | false =>
        have hin : t ∉ fz.map (·.1) := of_decide_eq_false hh
        have e : bstep u (fz, wz) t = (fz ++ [(t, d + 1)], wz ++ [t]) := by unfold bstep bd; dsimp only; rw [hh, hgt, put_new hin]; rfl
        rw [e]
        refine ⟨⟨bz.snoc hu g1 g2 hin hv, ?_, ⟨new ++ [(t, d + 1)], ?_⟩, ?_, List.mem_append_left _ hu⟩, fun p h => List.mem_append_left _ h, d + 1, List.mem_append_right _ (by simp), by omega⟩
        · dsimp only; rw [ew, List.map_append]; rfl
        · dsimp only; rw [en, List.append_assoc]
        · intro p hp
          rcases List.mem_append.mp hp with hp | hp
          · exact hv p hp
          · rw [List.mem_singleton] at hp; rw [hp]; exact Int.le_refl _
    obtain ⟨r1, r2, r3, r4⟩ := inner_ok hn gs (bstep u (fz, wz) t) (fun x hx => hg x (List.mem_cons_of_mem _ hx)) one.1
    refine ⟨⟨st, r1⟩, r2, fun p hp => r3 p (one.2.1 p hp), fun x hx => ?_⟩
    rcases List.mem_cons.mp hx with rfl | hx
    · obtain ⟨v, h1, h2⟩ := one.2.2
      exact ⟨v, r3 _ h1, h2⟩
    · exact r4 x hx
def LI (net : Net) (S : List Int) (z : List (Int × Int) × List Int × Int) : Prop := Bf (gl net) net.2.1.length S z.1 ∧ z.2.1 = z.1.map (·.1) ∧ ∃ a : Nat, z.2.2 = a ∧ a ≤ z.1.length ∧ (∀ j (hj : j < z.1.length), j < a → ∀ t ∈ gl net z.1[j].1, ∃ v, (t, v) ∈ z.1 ∧ v ≤ z.1[j].2 + 1) ∧ ∀ (h : a < z.1.length), ∀ p ∈ z.1, p.2 ≤ z.1[a].2 + 1
def StepsOut (net : Net) (S : List Int) (fd : List (Int × Int)) : Prop := Found (gl net) net.2.1.length S fd
theorem steps_ok (G : Goes net) (nd : S.Nodup) (hS : ∀ s ∈ S, 0 ≤ s ∧ s < net.2.1.length) : s_steps_to net S ∧ StepsOut net S (t_steps_to net S) := by
  have hlen := nodup_len nd hS
  have n12 := G.n12
  unfold s_steps_to t_steps_to
  refine hd_eq ?_
  refine hd_fold (fun k (z : List (Int × Int)) => z = (S.take k).map fun s => (s, (0 : Int))) rfl (fun k hk z hz => ?_) ?_
  · subst hz
    refine ⟨by rw [List.length_map, List.length_take]; omega, ?_⟩
    show putA _ S[k] 0 = _
    rw [put_new]
    · rw [List.take_succ_eq_append_getElem hk, List.map_append]; rfl
    · rw [List.map_map]
      intro h
      obtain ⟨x, hx, e⟩ := List.mem_map.mp h
      have e' : x = S[k] := e
      subst e'
      obtain ⟨j, hj, e2⟩ := List.mem_iff_getElem.mp hx
      rw [List.length_take] at hj
      rw [List.getElem_take] at e2
      have := (List.pairwise_iff_getElem.mp nd) j k (by omega) hk (by omega)
      exact this e2
  · intro z hz
    rw [List.take_length] at hz
    subst hz
    refine hd_eq (hd_eq ?_)
    have m0 : ∀ p ∈ S.map (fun s => (s, (0 : Int))), p.1 ∈ S ∧ p.2 = 0 := fun p hp => by
      obtain ⟨x, hx, rfl⟩ := List.mem_map.mp hp; exact ⟨hx, rfl⟩
    have key : (S.map (fun s => (s, (0 : Int)))).map (fun p => p.1) = S := by rw [List.map_map]; exact List.map_id' S
    refine hd_last (hd_wh (LI net S) (fun z => (net.2.1.length - z.2.2.toNat)) ?_ ?_ ?_)
    · refine ⟨⟨by rw [key]; exact nd, fun p hp => hS _ (m0 p hp).1, fun p hp => ⟨0, (m0 p hp).2, .start (m0 p hp).1⟩, ?_, fun s hs => List.mem_map.mpr ⟨s, hs, rfl⟩⟩, key.symm, 0, rfl, Nat.zero_le _, fun j hj h => absurd h (Nat.not_lt_zero _), fun h p hp => ?_⟩
      · rw [List.pairwise_iff_getElem]
        intro i j hi hj hij
        rw [(m0 _ (List.getElem_mem hi)).2, (m0 _ (List.getElem_mem hj)).2]; decide
      · rw [(m0 p hp).2, (m0 _ (List.getElem_mem h)).2]; decide
    · rintro ⟨fd, w, a'⟩ ⟨b, hw, a, ha, hle, done, nxt⟩
      dsimp only at b hw ha hle done nxt ⊢
      subst ha; subst hw
      have bl := b.len
      have stp : ∀ hlt : a < fd.length, ix (fd.map (·.1)) (a : Int) = fd[a].1 := fun hlt => by
        obtain ⟨h1, h2⟩ := ix_nat (xs := fd.map (·.1)) (i := (a : Int)) (by omega) (by rw [List.length_map]; omega)
        rw [h2, List.getElem_map]; rfl
      have inn : ∀ hlt : a < fd.length, _ := fun hlt => inner_ok (g := gl net) (S := S) (fd := fd) (u := fd[a].1) (d := fd[a].2) n12 (gl net fd[a].1) (fd, fd.map (·.1)) (fun t ht => ⟨ht, (G.s (b.rg _ (List.getElem_mem hlt)).1 (b.rg _ (List.getElem_mem hlt)).2).2 t ht⟩) ⟨b, rfl, ⟨[], by simp⟩, nxt hlt, List.getElem_mem hlt⟩
      refine ⟨fun hc => ?_, fun hc => ?_⟩
      · have hlt : a < fd.length := by have := of_decide_eq_true hc; rw [List.length_map] at this; omega
        have r := b.rg _ (List.getElem_mem hlt)
        refine ⟨inB_nat (by omega) (by rw [List.length_map]; omega), ?_⟩
        rw [stp hlt]
        exact ⟨(G.s r.1 r.2).1, (inn hlt).1⟩
      · have hlt : a < fd.length := by have := of_decide_eq_true hc; rw [List.length_map] at this; omega
        obtain ⟨_, i2, i3, i4⟩ := inn hlt
        rw [stp hlt]
        show LI net S (((gl net fd[a].1).foldl (bstep fd[a].1) (fd, fd.map (·.1))).1, ((gl net fd[a].1).foldl (bstep fd[a].1) (fd, fd.map (·.1))).2, (a : Int) + 1) ∧ net.2.1.length - ((a : Int) + 1).toNat < net.2.1.length - ((a : Int)).toNat
        generalize (gl net fd[a].1).foldl (bstep fd[a].1) (fd, fd.map (·.1)) = z at i2 i3 i4
        obtain ⟨fz, wz⟩ := z
        obtain ⟨bz, ew, ⟨new, en⟩, hv, hu⟩ := i2
        dsimp only at bz ew en hv hu i3 i4 ⊢
        have hl : fz.length = fd.length + new.length := by rw [en, List.length_append]
        have pre : ∀ j (hj : j < fd.length) (hj2 : j < fz.length), fz[j] = fd[j] := fun j hj hj2 => by
          subst en; rw [List.getElem_append_left hj]
        have bz2 := bz.len
        refine ⟨⟨bz, ew, a + 1, by show (a : Int) + 1 = ((a + 1 : Nat) : Int); omega, by show a + 1 ≤ fz.length; omega, fun j hj hja t ht => ?_, fun h p hp => ?_⟩, by omega⟩
        all_goals dsimp only at *
        · have hj2 : j < fd.length := by omega
          rw [pre j hj2 hj] at ht ⊢
          by_cases hja2 : j < a
          · obtain ⟨v, h1, h2⟩ := done j hj2 hja2 t ht
            exact ⟨v, i3 _ h1, h2⟩
          · have : j = a := by omega
            subst this
            exact i4 t ht
        · have h1 := hv p hp
          have h2 := (List.pairwise_iff_getElem.mp bz.up) a (a + 1) (by omega) h (by omega)
          rw [pre a hlt (by omega)] at h2
          omega
    · rintro ⟨fd, w, a'⟩ ⟨b, hw, a, ha, hle, done, nxt⟩ hc
      dsimp only at b hw ha hle done nxt hc ⊢
      subst ha; subst hw
      have hge : fd.length ≤ a := by
        have := of_decide_eq_false hc; rw [List.length_map] at this; omega
      refine ⟨trivial, b, fun t m wk => ?_⟩
      induction wk with
      | start hs => exact ⟨0, b.st _ hs, by omega⟩
      | step wu ht ih =>
        obtain ⟨v, h1, h2⟩ := ih
        obtain ⟨j, hj, e⟩ := List.mem_iff_getElem.mp h1
        obtain ⟨v2, h3, h4⟩ := done j hj (by omega) _ (by rw [e]; exact ht)
        rw [e] at h4
        exact ⟨v2, h3, by dsimp only at h4; omega⟩
end
theorem filter_map_id {p : Int → Bool} {xs : List Int} : (xs.filter p).map (fun x => x) = xs.filter p := List.map_id' _
theorem range_lt (lo hi : Int) : (rangeI lo hi).Pairwise (· < ·) := by
  rw [List.pairwise_iff_getElem]
  intro i j hi hj hij
  rw [rangeI_get, rangeI_get]; omega
theorem lt_ext : ∀ {xs ys : List Int}, xs.Pairwise (· < ·) → ys.Pairwise (· < ·) → (∀ x, x ∈ xs ↔ x ∈ ys) → xs = ys := by
  intro xs ys hx hy h
  have nx : xs.Nodup := hx.imp fun h => by omega
  have ny : ys.Nodup := hy.imp fun h => by omega
  exact ((List.perm_ext_iff_of_nodup nx ny).mpr h).eq_of_pairwise (fun a b _ _ h1 h2 => absurd h1 (by omega)) hx hy
def Rc (net : Net) (u t : Int) : Prop := ∃ m, Wk (gl net) [u] t m
theorem Rc.refl {net : Net} (u : Int) : Rc net u u := ⟨0, .start (by simp)⟩
theorem Rc.snoc {net : Net} {u v t : Int} (h : Rc net u v) (ht : t ∈ gl net v) : Rc net u t := by
  obtain ⟨m, w⟩ := h
  exact ⟨m + 1, .step w ht⟩
theorem Rc.trans {net : Net} {u v t : Int} (h : Rc net u v) (h2 : Rc net v t) : Rc net u t := by
  obtain ⟨m, w⟩ := h2
  induction w with
  | start hs => rw [List.mem_singleton] at hs; rw [hs]; exact h
  | step wu ht ih => exact ih.snoc ht
theorem wk_any {net : Net} {S : List Int} {t : Int} : (∃ m, Wk (gl net) S t m) ↔ ∃ u ∈ S, Rc net u t := by
  constructor
  · rintro ⟨m, w⟩
    induction w with
    | start hs => exact ⟨_, hs, Rc.refl _⟩
    | step wu ht ih => obtain ⟨u, hu, r⟩ := ih; exact ⟨u, hu, r.snoc ht⟩
  · rintro ⟨u, hu, m, w⟩
    induction w with
    | start hs => rw [List.mem_singleton] at hs; rw [hs]; exact ⟨0, .start hu⟩
    | step wu ht ih => obtain ⟨k, w⟩ := ih; exact ⟨k + 1, .step w ht⟩
theorem Rc.rg {net : Net} (G : Goes net) {u t : Int} (h : Rc net u t) (hu : 0 ≤ u ∧ u < net.2.1.length) : 0 ≤ t ∧ t < net.2.1.length := by
  obtain ⟨m, w⟩ := h
  induction w with
  | start hs => rw [List.mem_singleton] at hs; rw [hs]; exact hu
  | step wu ht ih => exact (G.s ih.1 ih.2).2 _ ht
section
variable {net : Net}
theorem steps_mem (G : Goes net) {S : List Int} (nd : S.Nodup) (hS : ∀ s ∈ S, 0 ≤ s ∧ s < net.2.1.length) : s_steps_to net S ∧ (∀ t, t ∈ PySem.W.sortI (keysA (t_steps_to net S)) ↔ ∃ u ∈ S, Rc net u t) ∧ (PySem.W.sortI (keysA (t_steps_to net S))).Pairwise (· < ·) := by
  obtain ⟨h1, h2⟩ := steps_ok G nd hS
  exact ⟨h1, fun t => by rw [mem_sort, h2.mem, wk_any], sort_lt h2.bf.nd⟩
theorem can_go_ok (G : Goes net) {u : Int} (h : 0 ≤ u ∧ u < net.2.1.length) : s_can_go net u ∧ (∀ t, t ∈ t_can_go net u ↔ Rc net u t) ∧ (t_can_go net u).Pairwise (· < ·) := by
  obtain ⟨h1, h2, h3⟩ := steps_mem G (S := [u]) (by simp) (by simpa using h)
  exact ⟨h1, fun t => by unfold t_can_go; rw [h2]; simp, h3⟩
theorem can_go_len (G : Goes net) {u : Int} (h : 0 ≤ u ∧ u < net.2.1.length) : (t_can_go net u).length ≤ 12 := by
  obtain ⟨_, h2, h3⟩ := can_go_ok G h
  have := rising_len (n := net.2.1.length) (xs := t_can_go net u) (lo := 0) (fun x hx => ((h2 x).mp hx).rg G h) h3 (by decide) (by omega)
  have := G.n12; omega
end
abbrev Gd (net : Net) : Prop := GoodNet net.1 net.2.1 net.2.2
section
variable {net : Net}
theorem Gd.goes (g : Gd net) : Goes net := ⟨g.s12, fun s hs => Nat.le_trans (ways_len (g.st s hs)) g.s12, fun s hs w hw => by have := (g.st s hs).wy w hw; exact ⟨this.1, this.2.1⟩⟩
theorem Gd.kind (g : Gd net) : (t_is_open net = true ∧ net.2.2.2.isLeft = true ∧ (numQ net.2.2.2).length = net.2.1.length) ∨ (t_is_open net = false ∧ net.2.2.2.isRight = true ∧ (numI net.2.2.2).length = net.2.1.length) := by
  unfold t_is_open
  rcases g.cm with ⟨e, r, e2, hl, _⟩ | ⟨e, r, e2, hl, _⟩
  · left; rw [e, e2]; exact ⟨by decide, rfl, hl⟩
  · right; rw [e, e2]; exact ⟨by decide, rfl, hl⟩
theorem from_outside_s (g : Gd net) {u : Int} (h : 0 ≤ u ∧ u < net.2.1.length) : s_from_outside net u := by
  refine ⟨trivial, fun z => ?_⟩
  rcases g.kind with ⟨_, k1, k2⟩ | ⟨k, _⟩
  · exact ⟨k1, inB_nat h.1 (by rw [k2]; exact h.2)⟩
  · rw [k] at z; cases z
theorem begin_count_s (g : Gd net) {u : Int} (h : 0 ≤ u ∧ u < net.2.1.length) : s_begin_count net u := by
  refine ⟨trivial, fun z => ?_⟩
  rcases g.kind with ⟨k, _⟩ | ⟨_, k1, k2⟩
  · rw [k] at z; cases z
  · exact ⟨k1, inB_nat h.1 (by rw [k2]; exact h.2)⟩
abbrev shs (net : Net) (u : Int) : List Rat := (ix net.2.1 u).2.2.map (·.2)
theorem left_over_ok (g : Gd net) {u : Int} (h : 0 ≤ u ∧ u < net.2.1.length) : s_left_over net u ∧ t_left_over net u = 1 - sumQ (shs net u) ∧ sumQ (shs net u) ≤ 1 := by
  have ib := inB_nat h.1 h.2
  have gs := g.st _ (ix_mem ib)
  have wl := ways_len gs
  have s12 := g.s12
  have ht := tsz_sm (xs := shs net u) (fun x hx => by
    obtain ⟨w, hw, rfl⟩ := List.mem_map.mp hx
    exact (gs.wy w hw).2.2.1)
  rw [List.length_map] at ht
  have hz := sz_sumL (shs net u)
  refine ⟨⟨ib, ?_, ?_, ?_⟩, rfl, gs.le⟩
  · show (ix net.2.1 u).2.2.length ≤ 10000
    omega
  · show tsz (shs net u) ≤ _
    omega
  · show SQ 1 (sumQ (shs net u))
    unfold SQ; rw [sz_1]; omega
noncomputable def isStart (net : Net) (x : Int) : Bool := (!decide (t_from_outside net x = (0 : Rat))) || decide (0 < t_begin_count net x)
def StartsOut (net : Net) (r : List Int) : Prop := r = (rangeI 0 net.2.1.length).filter (isStart net)
theorem starts_ok (g : Gd net) : s_starts_of net ∧ StartsOut net (t_starts_of net) := by
  have s12 := g.s12
  unfold s_starts_of t_starts_of t_stands_of
  refine hd_eq (hd_and trivial (hd_and ⟨by show (-100000000 : Int) < (net.2.1.length : Int); omega, by show ((net.2.1.length : Int)) < _; omega⟩ ?_))
  refine hd_last (hd_fold (fun k (z : List Int) => z = ((rangeI 0 net.2.1.length).take k).filter (isStart net)) rfl (fun k hk z hz => ?_) (fun z hz => ⟨trivial, ?_⟩))
  · have hk' : k < (rangeI 0 (net.2.1.length : Int)).length := hk
    have hm := List.getElem_mem hk'
    rw [mem_rangeI] at hm
    have zl : z.length ≤ k := by
      rw [hz]
      exact Nat.le_trans (List.length_filter_le _ _) (by rw [List.length_take]; omega)
    rw [rangeI_len] at hk'
    refine ⟨⟨from_outside_s g hm, fun _ => begin_count_s g hm, fun _ => by omega⟩, ?_⟩
    rw [List.take_succ_eq_append_getElem (by rw [rangeI_len]; omega), List.filter_append, ← hz, List.filter_cons, List.filter_nil]
    show (cond (isStart net _) (z ++ [_]) z) = _
    cases isStart net (rangeI 0 (net.2.1.length : Int))[k] with
    | true => rfl
    | false => simp
  · have : z = ((rangeI 0 net.2.1.length).take (rangeI 0 (net.2.1.length : Int)).length).filter (isStart net) := hz
    rw [List.take_length] at this
    exact this
theorem starts_mem (g : Gd net) : (t_starts_of net).Nodup ∧ ∀ s, s ∈ t_starts_of net ↔ (0 ≤ s ∧ s < net.2.1.length) ∧ isStart net s = true := by
  rw [(starts_ok g).2]
  refine ⟨((range_lt _ _).filter _).imp fun h => by omega, fun s => ?_⟩
  rw [List.mem_filter, mem_rangeI]
theorem reached_ok (g : Gd net) : s_reached net ∧ (∀ t, t ∈ t_reached net ↔ ∃ u : Int, (0 ≤ u ∧ u < net.2.1.length) ∧ isStart net u = true ∧ Rc net u t) ∧ (t_reached net).Pairwise (· < ·) := by
  obtain ⟨n1, n2⟩ := starts_mem g
  obtain ⟨h1, h2, h3⟩ := steps_mem g.goes n1 (fun s hs => ((n2 s).mp hs).1)
  refine ⟨⟨(starts_ok g).1, h1⟩, fun t => ?_, h3⟩
  unfold t_reached
  rw [h2]
  constructor
  · rintro ⟨u, hu, r⟩; exact ⟨u, ((n2 u).mp hu).1, ((n2 u).mp hu).2, r⟩
  · rintro ⟨u, h1, h2, r⟩; exact ⟨u, (n2 u).mpr ⟨h1, h2⟩, r⟩
theorem may_leave_ok (g : Gd net) {u : Int} (h : 0 ≤ u ∧ u < net.2.1.length) : s_may_leave net u ∧ (t_may_leave net u = true ↔ ∃ t, Rc net u t ∧ sumQ (shs net t) ≠ 1) := by
  obtain ⟨h1, h2, h3⟩ := can_go_ok g.goes h
  have hl := can_go_len g.goes h
  refine ⟨⟨h1, fun t ht => (left_over_ok g (((h2 t).mp ht).rg g.goes h)).1, by omega⟩, ?_⟩
  unfold t_may_leave
  rw [Bool.not_eq_true', decide_eq_false_iff_not, filter_map_id, List.filter_eq_nil_iff]
  constructor
  · intro q
    apply Classical.byContradiction
    intro nq
    apply q
    intro t ht z
    apply nq
    refine ⟨t, (h2 t).mp ht, fun e => ?_⟩
    have := (left_over_ok g (((h2 t).mp ht).rg g.goes h)).2.1
    rw [this, e] at z
    simp at z
    apply z; grind
  · rintro ⟨t, r, ne⟩ q
    have := q t ((h2 t).mpr r)
    apply this
    rw [(left_over_ok g (r.rg g.goes h)).2.1]
    simp
    intro z; apply ne; grind
theorem staying_ok (g : Gd net) : s_staying net ∧ t_staying net = cond (t_is_open net) ((rangeI 0 net.2.1.length).filter fun u => !t_may_leave net u) [] := by
  have s12 := g.s12
  refine ⟨⟨trivial, fun z => ⟨trivial, ⟨by show (-100000000 : Int) < (net.2.1.length : Int); omega, by show ((net.2.1.length : Int)) < _; omega⟩, fun u hu => ?_, ?_⟩⟩, ?_⟩
  · have hu' : u ∈ rangeI 0 (net.2.1.length : Int) := hu
    rw [mem_rangeI] at hu'
    exact (may_leave_ok g hu').1
  · show (rangeI 0 (net.2.1.length : Int)).length ≤ 10000
    rw [rangeI_len]; omega
  · unfold t_staying
    cases t_is_open net with
    | true => exact filter_map_id
    | false => rfl
end
end Look
namespace Law
open PySem L2 Dt Std Net Look
theorem smq_div {a b : Int} (h0 : 0 ≤ a) (h1 : a ≤ 1000) (h2 : 0 < b) (h3 : b ≤ 1000) : SmQ (Rat.divInt a b) := by
  refine ⟨?_, ?_, ?_⟩
  · rw [num_div, Int.sign_eq_one_of_pos h2, Int.one_mul]
    exact Int.ediv_nonneg h0 (by omega)
  · rw [num_div, Int.sign_eq_one_of_pos h2, Int.one_mul]
    exact Int.le_trans (Int.ediv_le_self _ h0) h1
  · rw [den_div (by omega)]
    exact Nat.le_trans (Nat.div_le_self _ _) (by omega)
theorem divI_le {a b c : Int} (h : a ≤ b) (hc : 0 < c) : Rat.divInt a c ≤ Rat.divInt b c := by
  rw [Rat.divInt_eq_div, Rat.divInt_eq_div, Rat.div_def, Rat.div_def]
  exact Rat.mul_le_mul_of_nonneg_right (Rat.intCast_le_intCast.mpr h) (Rat.le_of_lt (Rat.inv_pos.mpr (Rat.intCast_pos.mpr hc)))
theorem divI_pos {a b : Int} (ha : 0 < a) (hb : 0 < b) : 0 < Rat.divInt a b := by
  rw [Rat.divInt_eq_div, Rat.div_def]
  exact Rat.mul_pos (Rat.intCast_pos.mpr ha) (Rat.inv_pos.mpr (Rat.intCast_pos.mpr hb))
theorem divI_self {a : Int} (h : 0 < a) : Rat.divInt a a = 1 := by
  rw [Rat.divInt_eq_div, Rat.div_def]
  exact Rat.mul_inv_cancel _ (fun z => by have := Rat.intCast_eq_zero_iff.mp z; omega)
theorem divI_add {a b c : Int} : Rat.divInt a c + Rat.divInt b c = Rat.divInt (a + b) c := by
  rw [Rat.divInt_eq_div, Rat.divInt_eq_div, Rat.divInt_eq_div, Rat.intCast_add]; grind
theorem isq_one {a : Int} : IsQ (a, 1) := ⟨Int.one_pos, by simp⟩
theorem smq_int {a : Int} (h0 : 0 ≤ a) (h1 : a ≤ 1000) : SmQ (mkq (a, 1)) := smq_div (a := a) (b := 1) h0 h1 (by decide) (by decide)
theorem mkq_pos {a : Int} (h : 0 < a) : 0 < mkq (a, 1) := divI_pos (a := a) (b := 1) h (by decide)
theorem sumQ_acc : ∀ (xs : List Rat) (a : Rat), xs.foldl (· + ·) a = a + sumQ xs
  | [], a => by unfold sumQ; simp; grind
  | x :: xs, a => by
    unfold sumQ
    rw [List.foldl_cons, List.foldl_cons, sumQ_acc xs (a + x), sumQ_acc xs (0 + x)]; grind
theorem sumQ_nil : sumQ [] = 0 := rfl
theorem sumQ_cons (x : Rat) (xs : List Rat) : sumQ (x :: xs) = x + sumQ xs := by
  show (x :: xs).foldl (· + ·) 0 = _
  rw [List.foldl_cons, sumQ_acc]; grind
theorem sumQ_div (c : Int) : ∀ ps : List Int, sumQ (ps.map fun p => Rat.divInt p c) = Rat.divInt ps.sum c
  | [] => by simp [sumQ_nil]
  | p :: ps => by rw [List.map_cons, sumQ_cons, sumQ_div c ps, divI_add, List.sum_cons]
theorem sum_pos {ps : List Int} (h : ∀ p ∈ ps, 1 ≤ p ∧ p ≤ 5) : (ps.length : Int) ≤ ps.sum ∧ ps.sum ≤ 5 * ps.length := by
  induction ps with
  | nil => simp
  | cons p r ih =>
    have := ih fun q hq => h q (List.mem_cons_of_mem _ hq)
    have := h p (by simp)
    rw [List.sum_cons, List.length_cons]; omega
theorem strOk_open : PyData.strOk ("open" : Str) = true := by decide +kernel
theorem strOk_shut : PyData.strOk ("shut" : Str) = true := by decide +kernel
theorem okE_net {net : Net} (g : Gd net) : OkE eNet net := by
  have h1 : okD 19 (eL eLine net.1) = true := ok_lines (fun l hl => (g.ln l hl).okS) (by decide)
  have h2 : okD 19 (eL eStand net.2.1) = true := okD_up (by decide) ((gL gStand).ok net.2.1)
  have h3 : okD 19 (eC net.2.2) = true := by
    show (okD 18 (D.str net.2.2.1) && (okD 18 (eNum net.2.2.2) && true)) = true
    rcases g.cm with ⟨e, r, e2, _⟩ | ⟨e, r, e2, _⟩
    · rw [e, e2]
      have := okD_up (show 2 ≤ 18 by decide) ((gL gQ).ok r)
      show (PyData.strOk ("open" : Str) && (okD 18 (eL fq r) && true)) = true
      rw [this, strOk_open]; rfl
    · rw [e, e2]
      have := okD_up (show 1 ≤ 18 by decide) ((gL gI).ok r)
      show (PyData.strOk ("shut" : Str) && (okD 18 (eL D.int r) && true)) = true
      rw [this, strOk_shut]; rfl
  show (okD 19 (eL eLine net.1) && (okD 19 (eL eStand net.2.1) && (okD 19 (eC net.2.2) && true))) = true
  rw [h1, h2, h3]; rfl
theorem lcS_sub {σ : Type} {p : Int → σ → Bool × σ} (xs : List Int) (s : σ) : (lcS p (fun x s => (x, s)) xs s).1.Sublist xs := by
  induction xs generalizing s with
  | nil => exact .slnil
  | cons x r ih =>
    unfold lcS
    cases (p x s).1 with
    | true => exact (ih _).cons_cons _
    | false => exact (ih _).cons _
end Law
namespace Look
open PySem L2 Dt Std Net Law
section
variable {net : Net}
noncomputable def owy (net : Net) (s : Int) : List (Int × Int) := ((gl net s).filter (fun t => !decide (s ∈ t_can_go net t))).map (fun t => (s, t))
theorem owy_len (G : Goes net) {s : Int} (h : 0 ≤ s ∧ s < net.2.1.length) : (owy net s).length ≤ 12 := by
  unfold owy
  rw [List.length_map]
  refine Nat.le_trans (List.length_filter_le _ _) ?_
  rw [List.length_map]
  exact G.wl _ (ix_mem (inB_nat h.1 h.2))
def OwOut (net : Net) (r : List (Int × Int)) : Prop := r = (rangeI 0 (net.2.1.length : Int)).flatMap (owy net)
def OwI (net : Net) (k : Nat) (z : List (Int × Int)) : Prop := z = ((rangeI 0 (net.2.1.length : Int)).take k).flatMap (owy net) ∧ z.length ≤ 12 * k
theorem one_way_ok (G : Goes net) : s_one_way net ∧ t_one_way net = (rangeI 0 (net.2.1.length : Int)).flatMap (owy net) := by
  have n12 := G.n12
  have key : s_one_way net ∧ OwOut net (t_one_way net) := by
    unfold s_one_way t_one_way t_stands_of
    refine hd_eq ?_
    refine hd_and trivial ?_
    refine hd_and ⟨by omega, by omega⟩ ?_
    refine hd_last (hd_fold (OwI net) ⟨rfl, by simp⟩ (fun k hk z hz => ?_) (fun z hz => ⟨trivial, ?_⟩))
    · obtain ⟨z1, z2⟩ := hz
      have hm := List.getElem_mem hk
      rw [mem_rangeI] at hm
      have hk2 := hk
      rw [rangeI_len] at hk2
      have tk := List.take_succ_eq_append_getElem hk
      generalize (rangeI 0 (net.2.1.length : Int))[k] = s at hm tk ⊢
      have inn := sfl_of0 (f := fun (z4 : ((List (Int × Int)))) (xv5 : Int) => bd (cond (!decide (s ∈ (t_can_go net xv5))) (bd (z4 ++ [(s, xv5)]) (fun (v_found_7 : (List (Int × Int))) => v_found_7)) z4) (fun (z9 : ((List (Int × Int)))) => z9)) (S := fun (z4 : ((List (Int × Int)))) (xv5 : Int) => ((s_can_go net xv5) ∧ ((!decide (s ∈ (t_can_go net xv5))) = true → (z4.length < 10000))))
        (fun j z4 => z4 = z ++ (((gl net s).take j).filter (fun t => !decide (s ∈ t_can_go net t))).map (fun t => (s, t))) (gl net s) z (by simp) (fun j hj z4 hz4 => by
          have hg := (G.s hm.1 hm.2).2 _ (List.getElem_mem hj)
          have gle : (gl net s).length ≤ 12 := by rw [List.length_map]; exact G.wl _ (ix_mem (inB_nat hm.1 hm.2))
          have zl : z4.length ≤ z.length + j := by
            rw [hz4, List.length_append, List.length_map]
            have := List.length_filter_le (fun t => !decide (s ∈ t_can_go net t)) ((gl net s).take j)
            rw [List.length_take] at this
            omega
          refine ⟨⟨(can_go_ok G hg).1, fun _ => by omega⟩, ?_⟩
          rw [List.take_succ_eq_append_getElem hj, List.filter_append, List.map_append, ← List.append_assoc, ← hz4, List.filter_cons, List.filter_nil]
          show (cond (!decide (s ∈ t_can_go net (gl net s)[j])) (z4 ++ [(s, (gl net s)[j])]) z4) = _
          cases (!decide (s ∈ t_can_go net (gl net s)[j])) with
          | true => rfl
          | false => simp)
      refine ⟨⟨(G.s hm.1 hm.2).1, inn.1⟩, ?_⟩
      have r := inn.2
      rw [List.take_length] at r
      have ol := owy_len G hm
      have fl : List.flatMap (owy net) [s] = owy net s := by simp
      have r' : (List.foldl (fun (z4 : ((List (Int × Int)))) (xv5 : Int) => bd (cond (!decide (s ∈ (t_can_go net xv5))) (bd (z4 ++ [(s, xv5)]) (fun (v_found_7 : (List (Int × Int))) => v_found_7)) z4) (fun (z9 : ((List (Int × Int)))) => z9)) z (gl net s)) = z ++ owy net s := r
      refine (show OwI net (k + 1) (List.foldl (fun (z4 : ((List (Int × Int)))) (xv5 : Int) => bd (cond (!decide (s ∈ (t_can_go net xv5))) (bd (z4 ++ [(s, xv5)]) (fun (v_found_7 : (List (Int × Int))) => v_found_7)) z4) (fun (z9 : ((List (Int × Int)))) => z9)) z (gl net s)) from ?_)
      rw [r']
      refine ⟨by rw [tk, List.flatMap_append, ← z1, fl], ?_⟩
      rw [List.length_append]; omega
    · obtain ⟨z1, _⟩ := hz
      rw [List.take_length] at z1
      exact z1
  exact key
end
end Look
namespace Thru
open PySem L2 Dt Std Net Look Law
theorem ix_set {α : Type} [Inhabited α] {xs : List α} {i j : Nat} {v : α} (hi : i < xs.length) (hj : j < xs.length) : ix (setI xs (i : Int) v) (j : Int) = if i = j then v else ix xs (j : Int) := by
  have e1 : ixN' xs.length (i : Int) = i := by unfold ixN'; rw [if_neg (by omega)]; rfl
  have e2 : ixN' xs.length (j : Int) = j := by unfold ixN'; rw [if_neg (by omega)]; rfl
  unfold ix setI
  rw [List.length_set, e1, e2, List.getD_eq_getElem?_getD, List.getD_eq_getElem?_getD]
  split
  · rename_i h; subst h; rw [List.getElem?_set_self hi]; rfl
  · rename_i h; rw [List.getElem?_set_ne h]
theorem ix_get {α : Type} [Inhabited α] {xs : List α} {i : Nat} (h : i < xs.length) : ix xs (i : Int) = xs[i] := by
  obtain ⟨_, e⟩ := ix_nat (xs := xs) (i := (i : Int)) (by omega) (by omega)
  exact e
theorem enum_get {α : Type} {xs : List α} {k : Nat} (h : k < (enumI xs).length) (h2 : k < xs.length) : (enumI xs)[k] = ((k : Int), xs[k]) := by
  have h0 : ((rangeI 0 (xs.length : Int)).zip xs)[k]'h = ((k : Int), xs[k]) := by
    rw [List.getElem_zip (h := h), rangeI_get]; simp
  exact h0
end Thru
namespace Thru
open PySem L2 Dt Std Net Look Law
section
variable {net : Net}
end
section
variable {net : Net}
theorem ix_mapr {α : Type} [Inhabited α] {f : Int → α} {n i : Nat} (h : i < n) : ix ((rangeI 0 (n : Int)).map f) (i : Int) = f (i : Int) := by
  have rl : (rangeI 0 (n : Int)).length = n := by rw [rangeI_len]; omega
  rw [ix_get (by rw [List.length_map]; omega), List.getElem_map, rangeI_get]
  congr 1; omega
def SoundO (net : Net) : Prop := (∀ t : Int, 0 ≤ t ∧ t < net.2.1.length → ∃ u : Int, (0 ≤ u ∧ u < net.2.1.length) ∧ isStart net u = true ∧ Rc net u t) ∧ ∀ u : Int, 0 ≤ u ∧ u < net.2.1.length → ∃ t, Rc net u t ∧ sumQ (shs net t) ≠ 1
theorem filter_all {p : Int → Bool} {xs : List Int} : xs.filter p = [] ↔ ∀ x ∈ xs, p x = false := by
  rw [List.filter_eq_nil_iff]
  exact ⟨fun h x hx => by have := h x hx; simpa using this, fun h x hx => by rw [h x hx]; simp⟩
theorem reached_len (g : Gd net) : (t_reached net).length = net.2.1.length ↔ ∀ t : Int, 0 ≤ t ∧ t < net.2.1.length → t ∈ t_reached net := by
  obtain ⟨_, h2, h3⟩ := reached_ok g
  have nd : (t_reached net).Nodup := h3.imp fun h => by omega
  have sub : ∀ t ∈ t_reached net, t ∈ rangeI 0 (net.2.1.length : Int) := fun t ht => by
    obtain ⟨u, hu, _, r⟩ := (h2 t).mp ht
    rw [mem_rangeI]; exact r.rg g.goes hu
  have rl : (rangeI 0 (net.2.1.length : Int)).length = net.2.1.length := by rw [rangeI_len]; omega
  have ndr : (rangeI 0 (net.2.1.length : Int)).Nodup := (range_lt _ _).imp fun h => by omega
  constructor
  · intro hl t ht
    apply Classical.byContradiction
    intro q
    have := nodup_len (n := net.2.1.length) (xs := t :: t_reached net) (List.nodup_cons.mpr ⟨q, nd⟩) (fun x hx => by
      rcases List.mem_cons.mp hx with rfl | hx
      · exact ht
      · exact mem_rangeI.mp (sub x hx))
    rw [List.length_cons] at this
    omega
  · intro h
    have sp : (t_reached net).Perm (rangeI 0 (net.2.1.length : Int)) := (List.perm_ext_iff_of_nodup nd ndr).mpr fun t => ⟨sub t, fun ht => h t (mem_rangeI.mp ht)⟩
    rw [sp.length_eq, rl]
theorem is_sound_s (g : Gd net) : s_is_sound net := ⟨trivial, fun _ => ⟨(reached_ok g).1, trivial, fun _ => (staying_ok g).1⟩, fun _ => (one_way_ok g.goes).1⟩
theorem is_sound_open (g : Gd net) (ho : t_is_open net = true) : t_is_sound net = true ↔ SoundO net := by
  unfold t_is_sound
  rw [ho]
  show ((decide (((t_reached net).length : Int) = (net.2.1.length : Int))) && (decide (t_staying net = ([] : List Int)))) = true ↔ _
  rw [Bool.and_eq_true, decide_eq_true_eq, decide_eq_true_eq, (staying_ok g).2, ho]
  show _ ∧ (rangeI 0 (net.2.1.length : Int)).filter (fun u => !t_may_leave net u) = [] ↔ _
  rw [filter_all]
  have e1 : (((t_reached net).length : Int) = (net.2.1.length : Int)) ↔ (t_reached net).length = net.2.1.length := by omega
  rw [e1, reached_len g]
  unfold SoundO
  refine and_congr ⟨fun h t ht => ((reached_ok g).2.1 t).mp (h t ht), fun h t ht => ((reached_ok g).2.1 t).mpr (h t ht)⟩ ⟨fun h u hu => ?_, fun h u hu => ?_⟩
  · have := h u (mem_rangeI.mpr hu)
    rw [Bool.not_eq_false'] at this
    exact (may_leave_ok g hu).2.mp this
  · rw [mem_rangeI] at hu
    rw [Bool.not_eq_false']
    exact (may_leave_ok g hu).2.mpr (h u hu)
theorem ask_sound_s (g : Gd net) (h : t_is_sound net = true) : s_ask_sound net := ⟨is_sound_s g, fun z => by rw [h] at z; cases z⟩
end
end Thru
namespace Thru
open PySem L2 Dt Std Net Look Law
section
variable {net : Net}
def SoundS (net : Net) : Prop := ∀ u : Int, 0 ≤ u ∧ u < net.2.1.length → ∀ t ∈ gl net u, Rc net t u
theorem is_sound_shut (g : Gd net) (ho : t_is_open net = false) : t_is_sound net = true ↔ SoundS net := by
  unfold t_is_sound
  rw [ho]
  show decide (t_one_way net = ([] : List (Int × Int))) = true ↔ _
  rw [decide_eq_true_eq, (one_way_ok g.goes).2, List.flatMap_eq_nil_iff]
  constructor
  · intro h u hu t ht
    have h1 := h u (mem_rangeI.mpr hu)
    unfold owy at h1
    rw [List.map_eq_nil_iff, List.filter_eq_nil_iff] at h1
    have h2 := h1 t ht
    simp at h2
    exact ((can_go_ok g.goes ((g.goes.s hu.1 hu.2).2 t ht)).2.1 u).mp h2
  · intro h u hu
    rw [mem_rangeI] at hu
    unfold owy
    rw [List.map_eq_nil_iff, List.filter_eq_nil_iff]
    intro t ht
    have := ((can_go_ok g.goes ((g.goes.s hu.1 hu.2).2 t ht)).2.1 u).mpr (h u hu t ht)
    simp [this]
theorem rc_symm (g : Gd net) (S : SoundS net) {u t : Int} (hu : 0 ≤ u ∧ u < net.2.1.length) (r : Rc net u t) : Rc net t u := by
  obtain ⟨m, w⟩ := r
  have : ∀ {t : Int} {m : Nat}, Wk (gl net) [u] t m → Rc net t u ∧ (0 ≤ t ∧ t < net.2.1.length) := fun w => by
    induction w with
    | start hs => rw [List.mem_singleton.mp hs]; exact ⟨Rc.refl _, hu⟩
    | step wu ht ih => exact ⟨(S _ ih.2 _ ht).trans ih.1, (g.goes.s ih.2.1 ih.2.2).2 _ ht⟩
  exact (this w).1
noncomputable def ms (net : Net) (u : Int) : Int := ix (t_can_go net u) 0
theorem ms_facts (g : Gd net) {u : Int} (hu : 0 ≤ u ∧ u < net.2.1.length) : InB (t_can_go net u).length 0 ∧ Rc net u (ms net u) ∧ (∀ t, Rc net u t → ms net u ≤ t) ∧ (0 ≤ ms net u ∧ ms net u ≤ u) := by
  obtain ⟨_, h2, h3⟩ := can_go_ok g.goes hu
  have hm := (h2 u).mpr (Rc.refl u)
  have hl : 0 < (t_can_go net u).length := List.length_pos_of_mem hm
  have e : ms net u = (t_can_go net u)[0] := by
    unfold ms
    obtain ⟨_, e⟩ := ix_nat (xs := t_can_go net u) (i := 0) (by decide) (by omega)
    exact e
  have r : Rc net u (ms net u) := by rw [e]; exact (h2 _).mp (List.getElem_mem hl)
  have le : ∀ t, Rc net u t → ms net u ≤ t := fun t ht => by
    obtain ⟨j, hj, ej⟩ := List.mem_iff_getElem.mp ((h2 t).mpr ht)
    rw [e, ← ej]
    by_cases h0 : j = 0
    · subst h0; exact Int.le_refl _
    · exact Int.le_of_lt ((List.pairwise_iff_getElem.mp h3) 0 j hl hj (by omega))
  exact ⟨inB_nat (by decide) (by omega), r, le, (r.rg g.goes hu).1, le u (Rc.refl u)⟩
theorem ms_eq (g : Gd net) (S : SoundS net) {u t : Int} (hu : 0 ≤ u ∧ u < net.2.1.length) (r : Rc net u t) : ms net t = ms net u := by
  have ht := r.rg g.goes hu
  obtain ⟨_, r1, l1, _⟩ := ms_facts g hu
  obtain ⟨_, r2, l2, _⟩ := ms_facts g ht
  have := l1 _ (r.trans r2)
  have := l2 _ ((rc_symm g S hu r).trans r1)
  omega
theorem fstI_app : ∀ {l l' : List Int} {x : Int}, x ∈ l → fstI (l ++ l') x = fstI l x
  | [], _, _, h => by simp at h
  | k :: r, l', x, h => by
    rw [List.cons_append]
    unfold fstI
    by_cases e : k = x
    · rw [if_pos e, if_pos e]
    · rw [if_neg e, if_neg e, fstI_app ((List.mem_cons.mp h).resolve_left fun z => e z.symm)]
theorem fstI_inj {l : List Int} {x y : Int} (hx : x ∈ l) (hy : y ∈ l) (h : fstI l x = fstI l y) : x = y := by
  have h1 := (fstI_at hx).1
  have h2 := (fstI_at hy).1
  rw [h] at h1
  rw [h1] at h2
  exact Option.some.inj h2
structure CwI (net : Net) (k : Nat) (z : List Int × List Int) : Prop where
  len : z.1.length = k
  le : z.2 = ((rangeI 0 (net.2.1.length : Int)).take k).filter (fun s => decide (ms net s = s))
  fd : ∀ s (h : s < z.1.length), ms net (s : Int) ∈ z.2 ∧ z.1[s] = ((fstI z.2 (ms net (s : Int)) : Nat) : Int)
theorem repI_rep {α : Type} (x : α) (k : Int) : repI [x] k = List.replicate k.toNat x := by
  unfold repI
  generalize k.toNat = m
  induction m with
  | zero => rfl
  | succ m ih => rw [List.replicate_succ, List.flatten_cons, ih]; rfl
end
end Thru
namespace DtS
open PySem PyProof.Rows Srt SrtO
section
variable {prog : Program} {w : World} {A : Around} {E : Value → Shared → Prop} {s : Shared}
end
end DtS
namespace Dt
open PySem PySem.Spec PyProof.Rows L2
def insP {α : Type} (x : Int × α) : List (Int × α) → List (Int × α)
  | [] => [x]
  | y :: r => if y.1 < x.1 then y :: insP x r else x :: y :: r
def sortP {α : Type} (l : List (Int × α)) : List (Int × α) := l.foldr insP []
theorem insP_perm {α : Type} (x : Int × α) : ∀ l : List (Int × α), (insP x l).Perm (x :: l)
  | [] => List.Perm.refl _
  | y :: r => by
    unfold insP
    split
    · exact ((insP_perm x r).cons y).trans (List.Perm.swap x y r)
    · exact List.Perm.refl _
theorem sortP_perm {α : Type} : ∀ l : List (Int × α), (sortP l).Perm l
  | [] => List.Perm.refl _
  | x :: r => (insP_perm x _).trans ((sortP_perm r).cons x)
theorem insP_up {α : Type} (x : Int × α) : ∀ l : List (Int × α), l.Pairwise (fun a b => a.1 ≤ b.1) → (insP x l).Pairwise (fun a b => a.1 ≤ b.1)
  | [], _ => List.pairwise_singleton _ _
  | y :: r, h => by
    unfold insP
    rw [List.pairwise_cons] at h
    split
    · rename_i hlt
      refine List.pairwise_cons.mpr ⟨fun z hz => ?_, insP_up x r h.2⟩
      rcases List.mem_cons.mp ((insP_perm x r).mem_iff.mp hz) with rfl | hz
      · omega
      · exact h.1 z hz
    · rename_i hge
      refine List.pairwise_cons.mpr ⟨fun z hz => ?_, List.pairwise_cons.mpr h⟩
      rcases List.mem_cons.mp hz with rfl | hz
      · omega
      · have := h.1 z hz; omega
theorem sortP_up {α : Type} : ∀ l : List (Int × α), (sortP l).Pairwise (fun a b => a.1 ≤ b.1)
  | [] => List.Pairwise.nil
  | x :: r => insP_up x _ (sortP_up r)
theorem sortP_uniq {α : Type} {l m : List (Int × α)} (nd : (l.map (·.1)).Nodup) (hp : m.Perm l) (hs : m.Pairwise (fun a b => a.1 ≤ b.1)) : m = sortP l := by
  have hp2 : m.Perm (sortP l) := hp.trans (sortP_perm l).symm
  refine hp2.eq_of_pairwise (fun a b ha hb h1 h2 => ?_) hs (sortP_up l)
  have ha' : a ∈ l := hp.mem_iff.mp ha
  have hb' : b ∈ l := (sortP_perm l).mem_iff.mp hb
  have e : a.1 = b.1 := by omega
  obtain ⟨i, hi, ei⟩ := List.mem_iff_getElem.mp ha'
  obtain ⟨j, hj, ej⟩ := List.mem_iff_getElem.mp hb'
  have hij : i = j := by
    apply Classical.byContradiction
    intro ne
    rcases Nat.lt_or_gt_of_ne ne with h | h
    · have := (List.pairwise_iff_getElem.mp nd) i j (by simpa using hi) (by simpa using hj) h
      simp only [List.getElem_map] at this
      rw [ei, ej] at this; exact this e
    · have := (List.pairwise_iff_getElem.mp nd) j i (by simpa using hj) (by simpa using hi) h
      simp only [List.getElem_map] at this
      rw [ei, ej] at this; exact this e.symm
  subst hij
  rw [← ei, ← ej]
theorem Fzs.of_all {K : PySem.W.Frag} {B : Hp} {α : Type} {f : α → V} {g : α → D} : ∀ {zs : List α}, (∀ z ∈ zs, Fz K B (f z) (g z)) → Fzs K B (zs.map f) (zs.map g)
  | [], _ => .nil
  | z :: r, h => .cons (h z (by simp)) (Fzs.of_all fun y hy => h y (List.mem_cons_of_mem _ hy))
end Dt
namespace Dt
open PySem PySem.Spec PyProof.Rows L2
end Dt
namespace Turn
open PySem L2 Dt Std Net Look Law Thru
structure WaysOk (n : Int) (full : Bool) (ws : List Way) : Prop where
  wy : ∀ w ∈ ws, 0 ≤ w.1 ∧ w.1 < n ∧ SmQ w.2 ∧ 0 < w.2
  up : ws.Pairwise (fun a b => a.1 < b.1)
  le : sumQ (ws.map (·.2)) ≤ 1
  fu : full = true → sumQ (ws.map (·.2)) = 1
theorem map_zip2 (f : Int → Rat) : ∀ (xs ys : List Int), xs.length = ys.length → ((xs.zip ys).map (fun p => (p.1, f p.2))).map (·.1) = xs ∧ ((xs.zip ys).map (fun p => (p.1, f p.2))).map (·.2) = ys.map f
  | [], [], _ => ⟨rfl, rfl⟩
  | [], _ :: _, h => by cases h
  | _ :: _, [], h => by cases h
  | x :: xs, y :: ys, h => by
    obtain ⟨h1, h2⟩ := map_zip2 f xs ys (by simpa using h)
    simp only [List.zip_cons_cons, List.map_cons]
    exact ⟨by rw [h1], by rw [h2]⟩
theorem ways_mk {n below : Int} {full : Bool} {so pa : List Int} (hl : so.length = pa.length) (l12 : so.length ≤ 12) (hs : ∀ x ∈ so, 0 ≤ x ∧ x < n) (up : so.Pairwise (· < ·)) (hp : ∀ p ∈ pa, 1 ≤ p ∧ p ≤ 5) (hb : pa.sum ≤ below) (hb2 : below ≤ pa.sum + 40) (h0 : 0 < below) (hf : full = true → below = pa.sum) :
    WaysOk n full ((so.zip pa).map fun p => (p.1, Rat.divInt p.2 below)) ∧ ((so.zip pa).map fun p => (p.1, Rat.divInt p.2 below)).map (·.1) = so ∧ sumQ (((so.zip pa).map fun p => (p.1, Rat.divInt p.2 below)).map (·.2)) = Rat.divInt pa.sum below := by
  obtain ⟨e1, e2⟩ := map_zip2 (fun p => Rat.divInt p below) so pa hl
  obtain ⟨s1, s2⟩ := sum_pos hp
  have e3 : sumQ (((so.zip pa).map fun p => (p.1, Rat.divInt p.2 below)).map (·.2)) = Rat.divInt pa.sum below := by rw [e2, sumQ_div]
  refine ⟨⟨fun w hw => ?_, ?_, ?_, fun z => ?_⟩, e1, e3⟩
  · obtain ⟨p, hp1, rfl⟩ := List.mem_map.mp hw
    obtain ⟨h1, h2⟩ := List.of_mem_zip hp1
    have hpos : 0 < pa.length := List.length_pos_of_mem h2
    have := hp _ h2
    exact ⟨(hs _ h1).1, (hs _ h1).2, smq_div (by omega) (by omega) (by omega) (by omega), divI_pos (by omega) (by omega)⟩
  · have : (((so.zip pa).map fun p => (p.1, Rat.divInt p.2 below)).map (·.1)).Pairwise (· < ·) := by rw [e1]; exact up
    rw [List.pairwise_map] at this
    exact this
  · rw [e3, ← divI_self (a := below) h0]
    exact divI_le hb h0
  · rw [e3, ← hf z, divI_self h0]
theorem sumQ_perm {xs ys : List Rat} (h : xs.Perm ys) : sumQ xs = sumQ ys := by
  induction h with
  | nil => rfl
  | cons x _ ih => rw [sumQ_cons, sumQ_cons, ih]
  | swap x y l => rw [sumQ_cons, sumQ_cons, sumQ_cons, sumQ_cons]; grind
  | trans _ _ h1 h2 => rw [h1, h2]
structure Tn (n : Nat) (σ τ : Int → Int) : Prop where
  s : ∀ k : Int, 0 ≤ k → k < n → 0 ≤ σ k ∧ σ k < n
  t : ∀ k : Int, 0 ≤ k → k < n → 0 ≤ τ k ∧ τ k < n
  st : ∀ k : Int, 0 ≤ k → k < n → σ (τ k) = k
  ts : ∀ k : Int, 0 ≤ k → k < n → τ (σ k) = k
def tst (σ : Int → Int) (s : Stand) : Stand := (s.1, s.2.1, sortP (s.2.2.map fun w => (σ w.1, w.2)))
theorem Tn.inj {n : Nat} {σ τ : Int → Int} (T : Tn n σ τ) {a b : Int} (ha : 0 ≤ a ∧ a < n) (hb : 0 ≤ b ∧ b < n) (h : σ a = σ b) : a = b := by
  rw [← T.ts a ha.1 ha.2, ← T.ts b hb.1 hb.2, h]
theorem Tn.nodup {n : Nat} {σ τ : Int → Int} (T : Tn n σ τ) {full : Bool} {ws : List Way} (h : WaysOk n full ws) : ((ws.map fun w => (σ w.1, w.2)).map (·.1)).Nodup := by
  have e : (ws.map fun w => (σ w.1, w.2)).map (·.1) = ws.map fun w => σ w.1 := by rw [List.map_map]; rfl
  rw [e, List.Nodup, List.pairwise_map]
  refine h.up.imp_of_mem fun {a b} ha hb hl e => ?_
  have := T.inj ⟨(h.wy a ha).1, (h.wy a ha).2.1⟩ ⟨(h.wy b hb).1, (h.wy b hb).2.1⟩ e
  omega
theorem Tn.ways {n : Nat} {σ τ : Int → Int} (T : Tn n σ τ) {full : Bool} {ws : List Way} (h : WaysOk n full ws) : WaysOk n full (sortP (ws.map fun w => (σ w.1, w.2))) := by
  have pm := sortP_perm (ws.map fun w => (σ w.1, w.2))
  have sm : sumQ ((sortP (ws.map fun w => (σ w.1, w.2))).map (·.2)) = sumQ (ws.map (·.2)) := by
    rw [sumQ_perm (pm.map (·.2)), List.map_map]; rfl
  refine ⟨fun w hw => ?_, ?_, by rw [sm]; exact h.le, fun z => by rw [sm]; exact h.fu z⟩
  · obtain ⟨w', hw', rfl⟩ := List.mem_map.mp (pm.mem_iff.mp hw)
    obtain ⟨a, b, c⟩ := h.wy w' hw'
    exact ⟨(T.s _ a b).1, (T.s _ a b).2, c⟩
  · have u := sortP_up (ws.map fun w => (σ w.1, w.2))
    have nd : ((sortP (ws.map fun w => (σ w.1, w.2))).map (·.1)).Nodup := (pm.map (·.1)).nodup_iff.mpr (T.nodup h)
    rw [List.Nodup, List.pairwise_map] at nd
    exact (u.and nd).imp fun {a b} ⟨h1, h2⟩ => by omega
structure Made (nl n : Nat) (full : Bool) (ma : List Stand) : Prop where
  len : ma.length = n
  st : ∀ s ∈ ma, 0 ≤ s.1 ∧ s.1 < nl ∧ (SmQ s.2.1 ∧ 0 < s.2.1) ∧ WaysOk n full s.2.2
  us : ∀ i : Nat, i < nl → ∃ s ∈ ma, s.1 = (i : Int)
def tmap (n : Nat) (σ τ : Int → Int) (ma : List Stand) : List Stand := (rangeI 0 (n : Int)).map fun k => tst σ (ix ma (τ k))
section
variable {nl n : Nat} {full : Bool} {ma : List Stand} {σ τ : Int → Int}
theorem tmap_len : (tmap n σ τ ma).length = n := by unfold tmap; rw [List.length_map, rangeI_len]; omega
theorem tmap_ix (T : Tn n σ τ) {k : Int} (h : 0 ≤ k ∧ k < n) : ix (tmap n σ τ ma) k = tst σ (ix ma (τ k)) := by
  obtain ⟨k', rfl⟩ : ∃ j : Nat, k = j := ⟨k.toNat, by omega⟩
  unfold tmap
  rw [ix_mapr (by omega)]
theorem tmap_ixs (T : Tn n σ τ) {k : Int} (h : 0 ≤ k ∧ k < n) : ix (tmap n σ τ ma) (σ k) = tst σ (ix ma k) := by
  rw [tmap_ix T (T.s k h.1 h.2), T.ts k h.1 h.2]
theorem Made.at (M : Made nl n full ma) {k : Int} (h : 0 ≤ k ∧ k < n) : ix ma k ∈ ma := ix_mem (inB_nat h.1 (by rw [M.len]; exact h.2))
theorem tmap_mem (M : Made nl n full ma) (T : Tn n σ τ) {s : Stand} (h : s ∈ tmap n σ τ ma) : ∃ s' ∈ ma, s = tst σ s' := by
  obtain ⟨k, hk, rfl⟩ := List.mem_map.mp h
  rw [mem_rangeI] at hk
  exact ⟨_, M.at (T.t k hk.1 hk.2), rfl⟩
theorem tmap_has (M : Made nl n full ma) (T : Tn n σ τ) {s : Stand} (h : s ∈ ma) : tst σ s ∈ tmap n σ τ ma := by
  obtain ⟨i, hi, rfl⟩ := List.mem_iff_getElem.mp h
  have hi' : i < n := by rw [← M.len]; exact hi
  have e := tmap_ixs (ma := ma) T (k := (i : Int)) ⟨by omega, by omega⟩
  rw [ix_get hi] at e
  rw [← e]
  have := T.s (i : Int) (by omega) (by omega)
  exact ix_mem (inB_nat this.1 (by rw [tmap_len]; exact this.2))
theorem tmap_stands (M : Made nl n full ma) (T : Tn n σ τ) : (∀ s ∈ tmap n σ τ ma, GoodStand nl (tmap n σ τ ma).length s) ∧ (∀ i : Nat, i < nl → ∃ s ∈ tmap n σ τ ma, s.1 = (i : Int)) ∧ (full = true → ∀ s ∈ tmap n σ τ ma, sumQ (s.2.2.map (·.2)) = 1) := by
  refine ⟨fun s hs => ?_, fun i hi => ?_, fun z s hs => ?_⟩
  · obtain ⟨s', h', rfl⟩ := tmap_mem M T hs
    obtain ⟨a, b, c, d⟩ := M.st s' h'
    have w := T.ways d
    rw [tmap_len]
    exact ⟨a, b, c, w.wy, w.up, w.le⟩
  · obtain ⟨s, hs, e⟩ := M.us i hi
    exact ⟨_, tmap_has M T hs, e⟩
  · obtain ⟨s', h', rfl⟩ := tmap_mem M T hs
    exact (T.ways (M.st s' h').2.2.2).fu z
variable {ls : List Line} {c : Com}
variable {a b : Int → Int}
end
end Turn
namespace Turn
open PySem L2 Dt Std Net Look Law Thru
def AtI {α : Type} (P : Nat → α → Prop) (k : Nat) (xs : List α) : Prop := xs.length = k ∧ ∀ i (h : i < xs.length), P i xs[i]
theorem AtI.nil {α : Type} {P : Nat → α → Prop} : AtI P 0 [] := ⟨rfl, fun i h => absurd h (Nat.not_lt_zero _)⟩
theorem AtI.snoc {α : Type} {P : Nat → α → Prop} {k : Nat} {xs : List α} {x : α} (h : AtI P k xs) (hx : P k x) : AtI P (k + 1) (xs ++ [x]) := by
  obtain ⟨h1, h2⟩ := h
  refine ⟨by rw [List.length_append, h1]; rfl, fun i hi => ?_⟩
  rw [List.length_append, List.length_singleton] at hi
  by_cases e : i < xs.length
  · rw [List.getElem_append_left e]; exact h2 i e
  · have : i = k := by omega
    subst this
    rw [List.getElem_append_right (by omega)]
    simp only [h1, Nat.sub_self, List.getElem_cons_zero]
    exact hx
theorem AtI.mem {α : Type} {P : Nat → α → Prop} {k : Nat} {xs : List α} (h : AtI P k xs) {x : α} (hx : x ∈ xs) : ∃ i, i < k ∧ P i x := by
  obtain ⟨i, hi, rfl⟩ := List.mem_iff_getElem.mp hx
  exact ⟨i, by rw [← h.1]; exact hi, h.2 i hi⟩
theorem AtI.at {α : Type} [Inhabited α] {P : Nat → α → Prop} {k : Nat} {xs : List α} (h : AtI P k xs) {i : Nat} (hi : i < k) : P i (ix xs (i : Int)) := by
  rw [ix_get (by rw [h.1]; exact hi)]; exact h.2 i (by rw [h.1]; exact hi)
theorem lcS_keep {σ : Type} {p : Int → σ → Bool × σ} {x : Int} : ∀ (xs : List Int) (s : σ), (∀ s, (p x s).1 = true) → x ∈ xs → x ∈ (lcS p (fun x s => (x, s)) xs s).1
  | [], _, _, h => by cases h
  | y :: r, s, hp, h => by
    unfold lcS
    rcases List.mem_cons.mp h with rfl | h
    · rw [hp s]; exact List.mem_cons_self ..
    · cases (p y s).1 with
      | true => exact List.mem_cons_of_mem _ (lcS_keep r _ hp h)
      | false => exact lcS_keep r _ hp h
theorem sumI_perm {xs ys : List Int} (h : xs.Perm ys) : xs.sum = ys.sum := by
  induction h with
  | nil => rfl
  | cons x _ ih => rw [List.sum_cons, List.sum_cons, ih]
  | swap x y l => rw [List.sum_cons, List.sum_cons, List.sum_cons, List.sum_cons]; omega
  | trans _ _ h1 h2 => rw [h1, h2]
def tnum {α : Type} [Inhabited α] (n : Nat) (τ : Int → Int) (xs : List α) : List α := (rangeI 0 (n : Int)).map fun k => ix xs (τ k)
section
variable {nl n : Nat} {full : Bool} {ma : List Stand} {σ τ : Int → Int}
theorem range_nodup (lo hi : Int) : (rangeI lo hi).Nodup := (range_lt _ _).imp fun h => by omega
theorem turn_perm (T : Tn n σ τ) : ((rangeI 0 (n : Int)).map τ).Perm (rangeI 0 (n : Int)) := by
  refine (List.perm_ext_iff_of_nodup ?_ (range_nodup _ _)).mpr fun x => ?_
  · rw [List.Nodup, List.pairwise_map]
    refine (range_lt 0 (n : Int)).imp_of_mem fun {a b} ha hb hl e => ?_
    rw [mem_rangeI] at ha hb
    have h1 := T.st a ha.1 ha.2
    rw [e, T.st b hb.1 hb.2] at h1
    omega
  · rw [mem_rangeI, List.mem_map]
    constructor
    · rintro ⟨y, hy, rfl⟩
      rw [mem_rangeI] at hy
      exact T.t y hy.1 hy.2
    · intro h
      have := T.s x h.1 h.2
      exact ⟨σ x, mem_rangeI.mpr this, T.ts x h.1 h.2⟩
theorem map_ix {α : Type} [Inhabited α] {xs : List α} (h : xs.length = n) : (rangeI 0 (n : Int)).map (fun k => ix xs k) = xs := by
  refine List.ext_getElem (by rw [List.length_map, rangeI_len]; omega) fun i h1 h2 => ?_
  rw [List.getElem_map, rangeI_get, show (0 : Int) + (i : Int) = (i : Int) by omega, ix_get h2]
theorem tnum_len {α : Type} [Inhabited α] {xs : List α} : (tnum n τ xs).length = n := by unfold tnum; rw [List.length_map, rangeI_len]; omega
theorem tnum_perm {α : Type} [Inhabited α] {xs : List α} (T : Tn n σ τ) (h : xs.length = n) : (tnum n τ xs).Perm xs := by
  have := (turn_perm T).map (fun k => ix xs k)
  rw [map_ix h, List.map_map] at this
  exact this
theorem begins_turn {cs : List Int} (T : Tn n σ τ) (hm : ma.length = n) (hc : cs.length = n) {i : Int} : begins (tmap n σ τ ma) (tnum n τ cs) i = begins ma cs i := by
  have e1 : (tnum n τ cs).zip (tmap n σ τ ma) = ((rangeI 0 (n : Int)).map τ).map fun k => (ix cs k, tst σ (ix ma k)) := by
    unfold tnum tmap
    rw [List.zip_map', List.map_map]; rfl
  have e2 : cs.zip ma = (rangeI 0 (n : Int)).map fun k => (ix cs k, ix ma k) := by
    rw [← List.zip_map', map_ix hc, map_ix hm]
  unfold begins
  rw [e1, e2]
  simp only [List.filter_map (p := fun (x : Int × Stand) => decide (x.2.1 = i))]
  rw [List.map_map, List.map_map]
  have pm := ((turn_perm T).filter ((fun (x : Int × Stand) => decide (x.2.1 = i)) ∘ fun k => (ix cs k, tst σ (ix ma k)))).map ((fun (x : Int × Stand) => x.1) ∘ fun k => (ix cs k, tst σ (ix ma k)))
  exact sumI_perm pm
theorem good_open {ls : List Line} {r : List Rat} (M : Made nl n false ma) (T : Tn n σ τ) (hl : ls.length = nl) (l1 : 1 ≤ nl) (l8 : nl ≤ 8) (n1 : 1 ≤ n) (n12 : n ≤ 12) (gl : ∀ l ∈ ls, GoodLine l) (rl : r.length = n) (rs : ∀ x ∈ r, SmQ x) (rp : ∃ x ∈ r, x ≠ 0) (kd : (∀ l ∈ ls, l.2.2.1 = 0 ∧ l.2.1 = 0) ∨ ∀ l ∈ ls, 0 < l.2.2.1) : GoodNet ls (tmap n σ τ ma) ("open", .inl (tnum n τ r)) := by
  obtain ⟨t1, t2, _⟩ := tmap_stands M T
  have pm := tnum_perm T rl
  refine ⟨by omega, by omega, by rw [tmap_len]; exact n1, by rw [tmap_len]; exact n12, gl, by rw [hl]; exact t1, by rw [hl]; exact t2, .inl ⟨rfl, _, rfl, by rw [tnum_len, tmap_len], fun x hx => rs x (pm.mem_iff.mp hx), ?_, kd⟩⟩
  obtain ⟨x, hx, h⟩ := rp
  exact ⟨x, pm.mem_iff.mpr hx, h⟩
theorem good_shut {ls : List Line} {cs : List Int} (M : Made nl n true ma) (T : Tn n σ τ) (hl : ls.length = nl) (l1 : 1 ≤ nl) (l8 : nl ≤ 8) (n1 : 1 ≤ n) (n12 : n ≤ 12) (cl : cs.length = n) (c0 : ∀ x ∈ cs, 0 ≤ x) (s1 : 1 ≤ cs.sum) (s8 : cs.sum ≤ 8) (gl : ∀ i (h : i < ls.length), GoodLine ls[i] ∧ ls[i].2.2.2 ≠ "lose" ∧ (ls[i].2.2.1 = 0 ∨ begins ma cs (i : Int) ≤ ls[i].2.2.1)) : GoodNet ls (tmap n σ τ ma) ("shut", .inr (tnum n τ cs)) := by
  obtain ⟨t1, t2, t3⟩ := tmap_stands M T
  have pm := tnum_perm T cl
  have gm : ∀ l ∈ ls, GoodLine l ∧ l.2.2.2 ≠ "lose" := fun l hm => by
    obtain ⟨i, hi, rfl⟩ := List.mem_iff_getElem.mp hm
    exact ⟨(gl i hi).1, (gl i hi).2.1⟩
  have se := sumI_perm pm
  refine ⟨by omega, by omega, by rw [tmap_len]; exact n1, by rw [tmap_len]; exact n12, fun l h => (gm l h).1, by rw [hl]; exact t1, by rw [hl]; exact t2, .inr ⟨rfl, _, rfl, by rw [tnum_len, tmap_len], fun x hx => c0 x (pm.mem_iff.mp hx), by omega, by omega, fun l h => (gm l h).2, t3 rfl, fun i h => ?_⟩⟩
  rw [begins_turn T M.len cl]
  exact (gl i h).2.2
theorem sum_inc : ∀ (xs : List Int) (j : Nat) (h : j < xs.length), (xs.set j (xs[j] + 1)).sum = xs.sum + 1
  | [], _, h => absurd h (Nat.not_lt_zero _)
  | x :: xs, 0, _ => by simp only [List.set_cons_zero, List.sum_cons, List.getElem_cons_zero]; omega
  | x :: xs, j + 1, h => by
    have := sum_inc xs j (by simpa using h)
    simp only [List.set_cons_succ, List.sum_cons, List.getElem_cons_succ]; omega
structure CntI (n k : Nat) (z : Stm × List Int) : Prop where
  len : z.2.length = n
  nn : ∀ x ∈ z.2, 0 ≤ x
  sm : z.2.sum = k
theorem sum_rep (m : Nat) : (List.replicate m (0 : Int)).sum = 0 := by
  induction m with
  | zero => rfl
  | succ m ih => rw [List.replicate_succ, List.sum_cons, ih]; rfl
theorem CntI.zero {n : Nat} {s : Stm} : CntI n 0 (s, repI [0] (n : Int)) := by
  rw [repI_rep]
  exact ⟨by show (List.replicate _ _).length = _; rw [List.length_replicate]; omega, fun x hx => by rw [(List.mem_replicate.mp hx).2]; decide, sum_rep _⟩
theorem CntI.inc {n k : Nat} {z : Stm × List Int} (h : CntI n k z) (s : Stm) {j : Int} (j0 : 0 ≤ j) (j1 : j < n) : CntI n (k + 1) (s, setI z.2 j (ix z.2 j + 1)) := by
  obtain ⟨j', rfl⟩ : ∃ m : Nat, j = m := ⟨j.toNat, by omega⟩
  have hj : j' < z.2.length := by rw [h.len]; omega
  have e : setI z.2 (j' : Int) (ix z.2 (j' : Int) + 1) = z.2.set j' (z.2[j'] + 1) := by
    unfold setI
    rw [ix_get hj]
    congr 1
  rw [e]
  refine ⟨by rw [List.length_set]; exact h.len, fun x hx => ?_, ?_⟩
  · rcases List.mem_or_eq_of_mem_set hx with hx | hx
    · exact h.nn x hx
    · have := h.nn _ (List.getElem_mem hj); omega
  · have := sum_inc z.2 j' hj
    have := h.sm
    show (z.2.set j' (z.2[j'] + 1)).sum = _
    omega
end
end Turn
namespace Dt
open PySem PySem.Spec PyProof.Rows L2
mutual

def D.noL : D → Bool
  | .tup xs => D.noLs xs
  | .lst _ => false
  | .dic _ _ => false
  | .dct _ _ => false
  | .scr _ => false
  | .non | .bl _ | .int _ | .str _ | .obj _ | .key _ => true
def D.noLs : List D → Bool
  | [] => true
  | x :: xs => D.noL x && D.noLs xs
end
def HO.isC : HO → Prop
  | .lst _ => True
  | .dK _ => True
  | .dT _ => True
  | _ => False
section
variable {K : PySem.W.Frag} {B : Hp} {a : Addr} {o : HO}
end
section
variable {X : Cx} {W : WX} {e : Expr} {i : Nat}
end
end Dt
namespace Dt
end Dt
namespace Dt
open PySem PySem.Spec PyProof.Rows L2
structure Cl where
  nm : Str
  takes : List Str
  g : M Fl
def ExM (K : PySem.W.Frag) (mg : Str → Option Value) (c h : Str) (b : Bool) : Prop := PySem.W.exmOne K ((mg c).getD .none) ((mg h).getD .none) = some b
def ExA (K : PySem.W.Frag) (mg : Str → Option Value) (ks : List Str) (k : Cl) : Prop := ∀ c ∈ ks, ExM K mg c k.nm (decide (c ∈ k.takes))
theorem exa_nil {K : PySem.W.Frag} {mg : Str → Option Value} {k : Cl} : ExA K mg [] k := fun c h => absurd h List.not_mem_nil
theorem exa_cons {K : PySem.W.Frag} {mg : Str → Option Value} {k : Cl} {c : Str} {ks : List Str} {b : Bool} (e : ExM K mg c k.nm b) (r : ExA K mg ks k) (hb : decide (c ∈ k.takes) = b := by decide) : ExA K mg (c :: ks) k := fun x hx => by
  rcases List.mem_cons.mp hx with rfl | hx
  · rw [hb]; exact e
  · exact r x hx
section
variable {X : Cx} {W : WX}
end
end Dt
namespace Dt
open PySem PySem.Spec PyProof.Rows L2
section
variable {α β : Type} {f : M α} {g : α → M β} {ρ ρ' ρ1 : Env} {c : Str}
theorem bz (h : f ρ = .rz c ρ') : M.bind f g ρ = .rz c ρ' := by unfold M.bind; rw [h]
theorem rzR {x : Str} (h : c = x) : (M.raise x : M α) ρ = .rz c ρ := by rw [h]; rfl
theorem cZ {n : Nat} {fx : M (List AV)} {avs : List AV} {fn : List D → Rf} {ds : List D} (h : fx ρ = .ok avs ρ1) (hl : avs.length = n) (hs : setup ρ1 none avs = some ds) (hf : fn ds = .rz c) : mCallN n none fn fx ρ = .rz c ρ1 := by
  unfold mCallN mCallF M.bind
  rw [h]; dsimp only
  rw [if_pos hl]
  unfold M.opt; dsimp only
  rw [hs]; dsimp only
  rw [hf]
  have e : ∀ l : List AV, slotOf none l = none := fun l => by cases l <;> rfl
  show Rs.rz c (match slotOf none avs with | none => ρ1 | some i => List.set ρ1 i Slot.un) = _
  rw [e]
def JZ (c : Str) (r : Rs Fl) (_ : Unit) : Prop := ∃ ρ', r = .rz c ρ'
theorem runZ {n : Nat} {fb : M Fl} {ds : List D} {x : Unit} (h : JZ c (fb (initE none n ds)) x) : runF none n fb ds = .rz c := by
  obtain ⟨ρ', h⟩ := h
  unfold runF; rw [h]
end
def rzOf : Rf → Str
  | .rz c => c
  | _ => default
def IsZ (r : Rf) : Prop := r = .rz (rzOf r)
theorem isZ_of {r : Rf} {c : Str} (h : r = .rz c) : IsZ r ∧ rzOf r = c := by subst h; exact ⟨rfl, rfl⟩
end Dt
namespace Wide
open PySem L2 Dt Std Net Look Law Thru
section
variable {net : Net}
end
theorem ix_app1 {α : Type} [Inhabited α] {xs : List α} {y : α} {j : Nat} (h : j < xs.length) : ix (xs ++ [y]) (j : Int) = ix xs (j : Int) := by
  rw [ix_get (by rw [List.length_append]; omega), ix_get h, List.getElem_append_left h]
theorem ix_app2 {α : Type} [Inhabited α] {xs : List α} {y : α} {j : Nat} (h : j = xs.length) : ix (xs ++ [y]) (j : Int) = y := by
  subst h
  rw [ix_get (by rw [List.length_append]; simp), List.getElem_append_right (Nat.le_refl _)]; simp
section
variable {sp : List Rat} {ld : Rat} {A : Nat}
theorem sumQ_divs (c : Rat) : ∀ xs : List Rat, sumQ (xs.map fun x => x / c) = sumQ xs / c
  | [] => by rw [List.map_nil, sumQ_nil]; grind
  | x :: xs => by rw [List.map_cons, sumQ_cons, sumQ_cons, sumQ_divs c xs]; grind
end
section
variable {net : Net}
end
end Wide
namespace Dt
open PySem PySem.Spec PyProof.Rows L2
instance decMemT {z : List L2.Key} {ks : List (List L2.Key)} : Decidable (z ∈ ks) := decidable_of_iff ((ks.any fun k => decide (k = z)) = true) (by
  rw [List.any_eq_true]
  exact ⟨fun ⟨x, h1, h2⟩ => by rw [← of_decide_eq_true h2]; exact h1, fun h => ⟨z, h, decide_eq_true rfl⟩⟩)
section
variable {K : PySem.W.Frag} {B H : Hp}
end
section
variable {X : Cx} {W : WX} {e a b kx : Expr} {pos : Pos} {i : Nat} {x : Str} {px : Pos} {K : PySem.W.Frag}
end
section
variable {X : Cx} {W : WX} {e a b kx dx : Expr} {pos : Pos} {i : Nat} {x : Str} {px : Pos}
end
section
variable {X : Cx} {W : WX} {e a : Expr} {pos p : Pos}
end
section
variable {α : Type} {F : α → D} {l : List (List Int × α)} {z : List Int} {v : α} {ρ ρ1 ρ2 ρ3 : Env} {i : Nat} {fe fk fd : M D} {fs : M (List D)}
end
end Dt
namespace Dt
open PySem PySem.Spec PyProof.Rows L2
mutual

def lfN : Mk → D → Bool
  | .z, d => d.noL
  | .l m, .lst ds => ds.all (lfN m)
  | .t ms, .tup ds => lfT ms ds
  | _, _ => false
def lfT : Mks → List D → Bool
  | .nil, [] => true
  | .cons m r, d :: ds => lfN m d && lfT r ds
  | _, _ => false
end
def iNoL : D → Bool
  | .lst ds => D.noLs ds
  | .dic _ ds => D.noLs ds
  | .dct _ ds => D.noLs ds
  | _ => false
def cutS (B : Hp) (S : List Addr) : Hp := fun x => if x ∈ S then none else B x
def AllC (B : Hp) (S : List Addr) : Prop := ∀ a ∈ S, ∃ o, B a = some o ∧ HO.isC o
section
variable {K : PySem.W.Frag} {B H : Hp} {S : List Addr}
theorem cutS_n {a : Addr} (h : B a = none) : cutS B S a = none := by unfold cutS; split <;> first | rfl | exact h
theorem cutS_in {a : Addr} (h : a ∈ S) : cutS B S a = none := if_pos h
theorem cutS_out {a : Addr} (h : a ∉ S) : cutS B S a = B a := if_neg h
theorem cutS_tup {a : Addr} {vs : List V} (h : B a = some (.tup vs)) (hc : AllC B S) : cutS B S a = some (.tup vs) := by
  rw [cutS_out fun z => ?_]
  · exact h
  · obtain ⟨o, e, c⟩ := hc a z
    rw [h] at e; injection e with e; subst e; exact c
theorem cutS_rd {t : Addr} {xs : List V} (h : Rd B t (.tup xs)) (hc : AllC B S) : Rd (cutS B S) t (.tup xs) := by
  have ne : t ∉ S := fun z => by
    obtain ⟨o, ha, hc⟩ := hc t z
    rcases h with h | ⟨u, h⟩
    · rw [ha] at h; injection h with h; subst h; exact hc
    · rw [ha] at h; injection h with h; subst h; exact hc
  rcases h with h | ⟨u, h⟩
  · exact .inl (by rw [cutS_out ne]; exact h)
  · exact .inr ⟨u, by rw [cutS_out ne]; exact h⟩
mutual
theorem Fz.cutS {v : V} {d : D} (hc : AllC B S) (n : d.noL = true) : Fz K B v d → Fz K (cutS B S) v d
  | .non => .non
  | .bl b => .bl b
  | .int i => .int i
  | .str x => .str x
  | .lst _ _ => by simp [D.noL] at n
  | .tup h hs => .tup (h.imp (fun h => cutS_rd h hc) id) (Fzs.cutS hc (by simpa only [D.noL] using n) hs)
  | .scr _ => by simp [D.noL] at n
  | .dic _ _ _ => by simp [D.noL] at n
  | .dct _ _ _ => by simp [D.noL] at n
  | .obj a => .obj a
  | .key h => .key (by rcases cutS_rd (.inl h) hc with h | ⟨o', h⟩; exact h; exact absurd h (by unfold Dt.cutS; split <;> simp_all))
theorem Fzs.cutS {vs : List V} {ds : List D} (hc : AllC B S) (n : D.noLs ds = true) : Fzs K B vs ds → Fzs K (cutS B S) vs ds
  | .nil => .nil
  | .cons h hs => by
    simp only [D.noLs, Bool.and_eq_true] at n
    exact .cons (Fz.cutS hc n.1 h) (Fzs.cutS hc n.2 hs)
end
theorem Its.cutS {m : Mk} {vs : List V} {ds : List D} {T : List Addr} (k : ∀ v d T, Tr K B H m v d T → lfN m d = true → Tr K (Dt.cutS B S) H m v d T) (h : Its (Tr K B H m) vs ds T) : ds.all (lfN m) = true → Its (Tr K (Dt.cutS B S) H m) vs ds T := by
  induction h with
  | nil => exact fun _ => .nil
  | cons a t ih =>
    intro n
    rw [List.all_cons, Bool.and_eq_true] at n
    exact .cons (k _ _ _ a n.1) (ih n.2)
mutual
theorem Tr.cutS (hc : AllC B S) : ∀ {m : Mk} {v : V} {d : D} {T : List Addr}, Tr K B H m v d T → lfN m d = true → Tr K (cutS B S) H m v d T
  | .z, _, _, _, h, n => by
    unfold Tr at h ⊢
    exact ⟨h.1.cutS hc (by simpa only [lfN] using n), h.2⟩
  | .l m, _, _, _, h, n => by
    unfold Tr at h ⊢
    obtain ⟨a, vs, ds, T, rfl, rfl, b, q, i, rfl⟩ := h
    exact ⟨a, vs, ds, T, rfl, rfl, cutS_n b, q, i.cutS (fun v d T t n => Tr.cutS hc (m := m) t n) (by simpa only [lfN] using n), rfl⟩
  | .t ms, _, _, _, h, n => by
    unfold Tr at h ⊢
    obtain ⟨a, vs, ds, rfl, rfl, b, i⟩ := h
    exact ⟨a, vs, ds, rfl, rfl, cutS_tup b hc, TrT.cutS hc (ms := ms) i (by simpa only [lfN] using n)⟩
theorem TrT.cutS (hc : AllC B S) : ∀ {ms : Mks} {vs : List V} {ds : List D} {T : List Addr}, TrT K B H ms vs ds T → lfT ms ds = true → TrT K (cutS B S) H ms vs ds T
  | .nil, _, _, _, h, _ => by
    unfold TrT at h ⊢
    exact h
  | .cons m r, _, _, _, h, n => by
    unfold TrT at h ⊢
    obtain ⟨v, vs, d, ds, S1, S2, rfl, rfl, t1, t2, rfl⟩ := h
    simp only [lfT, Bool.and_eq_true] at n
    exact ⟨v, vs, d, ds, S1, S2, rfl, rfl, Tr.cutS hc (m := m) t1 n.1, TrT.cutS hc (ms := r) t2 n.2, rfl⟩
end
theorem Ow.cutS {a : Addr} {d : D} (hc : AllC B S) (w : Ow K B H a d) (n : iNoL d = true) : Ow K (cutS B S) H a d := by
  cases d with
  | lst ds => obtain ⟨h, vs, q, f⟩ := w; exact ⟨cutS_n h, vs, q, f.cutS hc n⟩
  | dic ks ds => obtain ⟨h, vs, q, l, f⟩ := w; exact ⟨cutS_n h, vs, q, l, f.cutS hc n⟩
  | dct ks ds => obtain ⟨h, vs, q, l, f⟩ := w; exact ⟨cutS_n h, vs, q, l, f.cutS hc n⟩
  | _ => exact w.elim
theorem Ow.isC {a : Addr} {d : D} (w : Ow K B H a d) : ∃ o, H a = some o ∧ HO.isC o := by
  cases d with
  | lst ds => obtain ⟨h, vs, q, f⟩ := w; exact ⟨_, q, trivial⟩
  | dic ks ds => obtain ⟨h, vs, q, l, f⟩ := w; exact ⟨_, q, trivial⟩
  | dct ks ds => obtain ⟨h, vs, q, l, f⟩ := w; exact ⟨_, q, trivial⟩
  | _ => exact w.elim
mutual
theorem Tr.isC : ∀ {m : Mk} {v : V} {d : D} {T : List Addr}, Tr K B H m v d T → ∀ a ∈ T, ∃ o, H a = some o ∧ HO.isC o
  | .z, _, _, _, h => by
    unfold Tr at h
    rw [h.2]; exact fun a q => nomatch q
  | .l m, _, _, _, h => by
    unfold Tr at h
    obtain ⟨a, vs, ds, T, rfl, rfl, b, q, i, rfl⟩ := h
    intro x hx
    rcases List.mem_cons.mp hx with rfl | hx
    · exact ⟨_, q, trivial⟩
    · exact i.all (fun v d T r => Tr.isC (m := m) r) x hx
  | .t ms, _, _, _, h => by
    unfold Tr at h
    obtain ⟨a, vs, ds, rfl, rfl, b, i⟩ := h
    exact TrT.isC (ms := ms) i
theorem TrT.isC : ∀ {ms : Mks} {vs : List V} {ds : List D} {T : List Addr}, TrT K B H ms vs ds T → ∀ a ∈ T, ∃ o, H a = some o ∧ HO.isC o
  | .nil, _, _, _, h => by
    unfold TrT at h
    rw [h.2.2]; exact fun a q => nomatch q
  | .cons m r, _, _, _, h => by
    unfold TrT at h
    obtain ⟨v, vs, d, ds, S1, S2, rfl, rfl, t1, t2, rfl⟩ := h
    exact fun x hx => (List.mem_append.mp hx).elim (Tr.isC (m := m) t1 x) (TrT.isC (ms := r) t2 x)
end
theorem Ft.isC {v : V} {s : Slot} (h : Ft K B H v s S) : ∀ a ∈ S, ∃ o, H a = some o ∧ HO.isC o := by
  cases s with
  | un => exact h.elim
  | fz _ => exact h.elim
  | ow d => obtain ⟨a, rfl, w, rfl⟩ := h; intro x hx; rw [List.mem_singleton.mp hx]; exact w.isC
  | io d => obtain ⟨a, rfl, w, rfl⟩ := h; intro x hx; rw [List.mem_singleton.mp hx]; exact w.isC
  | dp m d => exact h.1.isC
end
def thG (s0 s : Slot) : Prop := match s with
  | .un => True
  | .fz d => s0 = .fz d ∨ d.noL = true
  | .ow d => iNoL d = true
  | .io d => iNoL d = true
  | .dp m d => lfN m d = true
def thH : List Slot → List Slot → Prop
  | s0 :: r0, s :: r => thG s0 s ∧ thH r0 r
  | [], [] => True
  | _, _ => False
theorem thH_get : ∀ {r0 r : List Slot}, thH r0 r → ∀ {j : Nat} {s : Slot}, r[j]? = some s → ∃ s0, r0[j]? = some s0 ∧ thG s0 s
  | [], [], _, j, s, e => by simp at e
  | [], _ :: _, h, _, _, _ => h.elim
  | _ :: _, [], h, _, _, _ => h.elim
  | s0 :: r0, s1 :: r, h, 0, s, e => by simp at e; subst e; exact ⟨s0, rfl, h.1⟩
  | s0 :: r0, s1 :: r, h, j + 1, s, e => by
    obtain ⟨q, h1, h2⟩ := thH_get h.2 (j := j) (s := s) (by simpa using e)
    exact ⟨q, by simpa using h1, h2⟩
open Classical in
noncomputable def mTh {α : Type} (g : α → Prop) (i : Nat) (f : M α) : M α := fun ρ => match ρ[i]? with
  | some s => if owned s = true then match f (ρ.set i (.fz s.dat)) with
    | .ok b ρ1 => if thH ρ (ρ1.set i .un) ∧ g b then .ok b (ρ1.set i s) else .fail
    | .rz c ρ1 => .rz c ρ1
    | .fail => .fail
    else .fail
  | none => .fail
section
variable {X : Cx} {W : WX} {e : Expr} {i : Nat} {K : PySem.W.Frag} {F : Fr} {ρ ρ1 : Env} {σ : St} {B H B' H' : Hp} {s : Slot} {v : V} {S : List Addr}
theorem Lv.thawC (w : Ft K B H v s S) (eB : Ex (frzB B H S) B') : AllC B' S := fun a ha => by
  obtain ⟨o, q, c⟩ := w.isC a ha
  exact ⟨o, eB a o (by rw [frzB_in ha]; exact q), c⟩
theorem Lv.thawE (L : Lv K F ρ σ B H) (w : Ft K B H v s S) (eB : Ex (frzB B H S) B') : Ex B (cutS B' S) := fun x u q => by
  have ne : x ∉ S := fun z => by rw [(w.hid x z).1] at q; cases q
  rw [cutS_out ne]
  exact eB x u (frzB_ex L.ex x u q)
theorem Ft.cut {s1 : Slot} {T : List Addr} {v : V} {s0 : Slot} (hc : AllC B' S) (t : thG s0 s1) (f : Ft K B' H' v s1 T) : Ft K (cutS B' S) H' v s1 T := by
  cases s1 with
  | un => exact f.elim
  | fz _ => exact f.elim
  | ow d => obtain ⟨b, e1, w, e2⟩ := f; exact ⟨b, e1, w.cutS hc t, e2⟩
  | io d => obtain ⟨b, e1, w, e2⟩ := f; exact ⟨b, e1, w.cutS hc t, e2⟩
  | dp m d => exact ⟨f.1.cutS hc t, f.2⟩
theorem Lv.thawS (L : Lv K F ρ σ B H) (e : ρ[i]? = some s) (hsig : σ[i]? = some (some v)) (w : Ft K B H v s S) (g : ∀ a ∈ S, F.A a ∨ F.H0 a = none)
    (M : Lv K F ρ1 σ B' H') (eB : Ex (frzB B H S) B') (ka : ∀ a ∈ S, ∀ o, H a = some o → H' a = some o) (th : thH ρ (ρ1.set i .un)) :
    Lv K F (ρ1.set i s) σ (cutS B' S) H' ∧ ∀ a, B' a = none → ¬ OwS K B' H' ρ1 σ a → ¬ OwS K (cutS B' S) H' (ρ1.set i s) σ a := by
  have hC := Lv.thawC w eB
  have exB := L.thawE w eB
  have hBS : ∀ a ∈ S, B' a ≠ none := fun a ha => by obtain ⟨o, q, _⟩ := hC a ha; rw [q]; simp
  have exH : Ex (cutS B' S) H' := fun x u q => by
    unfold cutS at q
    split at q
    · cases q
    · exact M.ex x u q
  have li : i < ρ1.length := by
    have h1 := (List.getElem?_eq_some_iff.mp e).1
    rw [L.len] at h1; rw [M.len]; exact h1
  have thj : ∀ {j : Nat} {s : Slot}, j ≠ i → ρ1[j]? = some s → ∃ s0, ρ[j]? = some s0 ∧ thG s0 s := fun {j s} ne q => thH_get th (by rw [List.getElem?_set_ne (Ne.symm ne)]; exact q)
  have wi : Ft K (cutS B' S) H' v s S := w.keep exB (fun a ha => cutS_in ha) ka
  have naS : ∀ {j : Nat} {s : Slot} {v : V} {T : List Addr}, Ft K B' H' v s T → ∀ a ∈ T, a ∉ S := fun f a ha z => hBS a z (f.hid a ha).1
  -- an owned slot under the cut, from behind
  have up : ∀ {j : Nat} {s1 : Slot} {v : V} {T : List Addr}, j ≠ i → ρ1[j]? = some s1 → σ[j]? = some (some v) → Ft K (cutS B' S) H' v s1 T → Ft K B' H' v s1 T := fun {j s1 v T} ne q hs f => by
    obtain ⟨v', T', h1, f', _⟩ := M.own0 j s1 q f.owned
    rw [hs] at h1; injection h1 with h1; injection h1 with h1; subst h1
    obtain ⟨s0, _, t⟩ := thj ne q
    have := f.det (f'.cut hC t)
    rw [this]; exact f'
  refine ⟨⟨exH, M.kept, M.there, L.exB.trans exB, fun x h1 h2 h3 => ?_, fun j d' q => ?_, fun j s1 q ho => ?_, fun j d' q => ?_, fun j k s1 t1 v1 u T1 T2 x q1 q2 g1 g2 f1 f2 m1 m2 => ?_, by rw [List.length_set]; exact M.len⟩, fun a na no h => ?_⟩
  · exact cutS_n (M.hid x h1 h2 h3)
  · rcases get_set q with ⟨rfl, z, _⟩ | ⟨ne, q⟩
    · subst z; exact w.elim
    · obtain ⟨s0, h1, t⟩ := thj ne q
      rcases t with t | t
      · subst t
        obtain ⟨v, h2, f⟩ := L.fz j d' h1
        exact ⟨v, h2, f.mono exB⟩
      · obtain ⟨v, h2, f⟩ := M.fz j d' q
        exact ⟨v, h2, f.cutS hC t⟩
  · rcases get_set q with ⟨rfl, z, _⟩ | ⟨ne, q⟩
    · subst z
      exact ⟨v, S, hsig, wi, g⟩
    · obtain ⟨v, T, h1, f, h2⟩ := M.own0 j s1 q ho
      obtain ⟨s0, _, t⟩ := thj ne q
      exact ⟨v, T, h1, f.cut hC t, h2⟩
  · rcases get_set q with ⟨rfl, z, _⟩ | ⟨ne, q⟩
    · subst z; exact L.io j d' e
    · exact M.io j d' q
  · rcases get_set q1 with ⟨rfl, z, _⟩ | ⟨ne, q1'⟩
    · rcases get_set q2 with ⟨rfl, z2, _⟩ | ⟨ne2, q2'⟩
      · rfl
      · rw [hsig] at g1; injection g1 with g1; injection g1 with g1; subst g1
        rw [z] at f1
        rw [f1.det wi] at m1
        exact absurd m1 (naS (j := k) (up ne2 q2' g2 f2) x m2)
    · rcases get_set q2 with ⟨z0, z, _⟩ | ⟨ne2, q2'⟩
      · subst z0
        rw [hsig] at g2; injection g2 with g2; injection g2 with g2; subst g2
        rw [z] at f2
        rw [f2.det wi] at m2
        exact absurd m2 (naS (j := j) (up ne q1' g1 f1) x m1)
      · exact M.ne0 j k s1 t1 v1 u T1 T2 x q1' q2' g1 g2 (up ne q1' g1 f1) (up ne2 q2' g2 f2) m1 m2
  · obtain ⟨j, s1, v1, T, q, hs, f, m⟩ := h
    rcases get_set q with ⟨rfl, z, _⟩ | ⟨ne, q⟩
    · subst z
      rw [hsig] at hs; injection hs with hs; injection hs with hs; subst hs
      rw [f.det wi] at m
      exact hBS a m na
    · exact no ⟨j, s1, v1, T, q, hs, up ne q hs f, m⟩
structure Thd (K : PySem.W.Frag) (F F' : Fr) (ρ1 ρ2 : Env) (σ : St) (B B' B2 H' : Hp) (S : List Addr) : Prop where
  eq : B2 = cutS B' S
  ex : Ex B B2
  hc : AllC B' S
  no : ∀ a, B' a = none → ¬ OwS K B' H' ρ1 σ a → ¬ OwS K B2 H' ρ2 σ a
  fr : ∀ a, F'.A a ∨ F'.H0 a = none → F.A a ∨ F.H0 a = none
  P : F'.P = F.P
theorem Post.thaw {α : Type} {g : α → Prop} {f : M α} {G : α → Env → Hp → Hp → Prop} (L : Lv X.K F ρ σ B H) (P : Post X W F σ B (mTh g i f ρ) G) :
    ∃ F' B1 ρ0, Lv X.K F' ρ0 σ B1 H ∧ Post X W F' σ B1 (f ρ0) (fun b ρ1 B' H' => g b ∧ ∃ S ρ2 B2, Thd X.K F F' ρ1 ρ2 σ B B' B2 H' S ∧ G b ρ2 B2 H') := by
  unfold mTh at P
  split at P
  · rename_i s e1
    split at P
    · rename_i ow
      obtain ⟨v, S, hsig, w, g0⟩ := L.own0 i s e1 ow
      obtain ⟨v0, S0, q0, f0, g0', no0, L1⟩ := L.take e1 ow
      rw [hsig] at q0; injection q0 with q0; injection q0 with q0; subst q0
      have eS : S0 = S := f0.det w
      subst eS
      have hf : Fz X.K (frzB B H S0) v s.dat := by
        have flt : ∀ {a : Addr} {d : D}, v = .ref a → Ow X.K B H a d → S0 = [a] → Fz X.K (frzB B H S0) v d := by
          intro a d e1 w1 e2
          subst e1; subst e2
          obtain ⟨o, h1, h2⟩ := w1.fz
          refine h2.mono fun b u hb => ?_
          by_cases z : b = a
          · subst z; rw [upd_same] at hb; rw [frzB_in (by simp), h1]; exact hb
          · rw [upd_ne z] at hb; rw [frzB_out (by simpa using z)]; exact hb
        cases s with
        | un => cases ow
        | fz _ => cases ow
        | ow d => obtain ⟨a, e1, w1, e2⟩ := w; exact flt e1 w1 e2
        | io d => obtain ⟨a, e1, w1, e2⟩ := w; exact flt e1 w1 e2
        | dp m d => exact w.1.fz L.ex fun a m => m
      have L2 : Lv X.K F (ρ.set i (.fz s.dat)) σ (frzB B H S0) H := by
        have h1 := L1.freezeS g0 no0
        have h2 := h1.slot (i := i) (t := .fz s.dat) rfl (fun d' z _ => by injection z with z; subst z; exact ⟨_, hsig, hf⟩)
        rw [List.set_set] at h2
        exact h2
      have nA : ∀ a ∈ S0, ¬ OwS X.K (frzB B H S0) H (ρ.set i (.fz s.dat)) σ a := fun a ha z => by
        have := (L2.hidOw z).1
        rw [frzB_in ha] at this
        exact (w.hid a ha).2.ne this
      refine ⟨_, _, _, L2.nest, ?_⟩
      cases q : f (ρ.set i (.fz s.dat)) with
      | fail => simp only [q] at P; exact P.elim
      | rz c ρ1 =>
        simp only [q] at P
        exact fun B' H' eB M => P B' H' ((frzB_ex L.ex).trans eB) (L2.back M)
      | ok b ρ1 =>
        simp only [q] at P
        split at P
        · rename_i th
          intro B' H' eB M
          have ka : ∀ a ∈ S0, ∀ o, H a = some o → H' a = some o := fun a ha o q => M.kept a o q (nA a ha)
          obtain ⟨x2, x3⟩ := L.thawS e1 hsig w g0 (L2.back M) eB ka th.1
          exact ⟨th.2, S0, _, _, ⟨rfl, L.thawE w eB, Lv.thawC w eB, x3, fun a h => h.elim (fun h => L2.ofOw h) (fun h => .inr (L2.free h)), rfl⟩, P _ H' (L.thawE w eB) x2⟩
        · exact P.elim
    · exact P.elim
  · exact P.elim
theorem et_th (i : Nat) {t : M Bool} (h : ET X W e t) : ET X W e (mTh (fun _ => True) i t) := by
  intro F ρ σ B H Q L P
  obtain ⟨F', B1, ρ0, L1, P1⟩ := Post.thaw L P
  exact h F' ρ0 σ B1 H Q L1 (P1.imp fun b ρ1 B' H' e M hG => by obtain ⟨_, S, ρ2, B2, t, hG⟩ := hG; exact hG)
def thV (d : D) : Prop := d.noL = true
theorem ev_th (i : Nat) {f : M D} (h : EV X W e f) : EV X W e (mTh thV i f) := by
  intro F ρ σ B H Q L P
  obtain ⟨F', B1, ρ0, L1, P1⟩ := Post.thaw L P
  exact h F' ρ0 σ B1 H Q L1 (P1.imp fun b ρ1 B' H' e M hG v fv => by
    obtain ⟨n, S, ρ2, B2, t, hG⟩ := hG
    obtain ⟨rfl, _, hc, _⟩ := t
    exact hG v (fv.cutS hc n))
end
def VT (K : PySem.W.Frag) (F : Fr) (ρ : Env) (σ : St) (B H : Hp) (vs : List V) (p : List D × Mks) : Prop := ∃ S, TrT K B H p.2 vs p.1 S ∧ S.Nodup ∧ ∀ a ∈ S, (F.A a ∨ F.H0 a = none) ∧ ¬ OwS K B H ρ σ a
def EAO (X : Cx) (W : WX) (es : List Expr) (f : M (List D × Mks)) : Prop := ∀ (F : Fr) (ρ : Env) (σ : St) (B H : Hp) (Q : List V → Hp → Prop), Lv X.K F ρ σ B H →
  Post X W F σ B (f ρ) (fun p ρ' B' H' => ∀ vs, VT X.K F ρ' σ B' H' vs p → Q vs H') → wa X es σ H Q
def oNil : M (List D × Mks) := M.pure ([], .nil)
def oF (f : M D) (g : M (List D × Mks)) : M (List D × Mks) := M.bind f fun x => M.bind g fun p => M.pure (x :: p.1, .cons .z p.2)
def oS (i : Nat) (g : M (List D × Mks)) : M (List D × Mks) := fun ρ => match ρ[i]? with
  | some s => if owned s = true then match g ρ with
    | .ok p ρ1 => match ρ1[i]? with
      | some (.ow (.lst ds)) => .ok (.lst ds :: p.1, .cons (.l .z) p.2) (ρ1.set i .un)
      | some (.dp m d) => .ok (d :: p.1, .cons m p.2) (ρ1.set i .un)
      | _ => .fail
    | .rz c ρ1 => .rz c ρ1
    | .fail => .fail
    else .fail
  | none => .fail
section
variable {X : Cx} {W : WX} {e : Expr} {pos : Pos}
theorem eao_nil : EAO X W [] oNil := fun F ρ σ B H Q L P => PA.wa pa_nil (P B H (Ex.refl _) L [] ⟨[], by unfold TrT; exact ⟨rfl, rfl, rfl⟩, .nil, fun a h => nomatch h⟩)
theorem eao_f {es : List Expr} {f : M D} {g : M (List D × Mks)} (ha : EV X W e f) (hr : EAO X W es g) (hs : starEach (e :: es) X.env = (false, eval e X.env) :: starEach es X.env := by exact star_un rfl) : EAO X W (e :: es) (oF f g) := by
  intro F ρ σ B H Q L P
  refine PA.wa (pa_cons pe_we pa_wa hs) ?_
  refine ha F ρ σ B H _ L ((Post.bind P).imp fun dx ρ1 B1 H1 e1 L1 P1 x fx => ?_)
  refine hr F ρ1 σ B1 H1 _ L1 ((Post.bind P1).imp fun p ρ2 B2 H2 e2 L2 P2 xs fs => ?_)
  obtain ⟨S, t, nd, g⟩ := fs
  exact P2 B2 H2 (Ex.refl _) L2 _ ⟨S, by unfold TrT; exact ⟨x, xs, dx, p.1, [], S, rfl, rfl, by unfold Tr; exact ⟨fx.mono e2, rfl⟩, t, rfl⟩, nd, g⟩
theorem eao_s (i : Nat) {es : List Expr} {g : M (List D × Mks)} {x : Str} (hr : EAO X W es g) (hN : X.N[i]? = some x := by rfl) (hv : Vis X.env.scope x := by first | exact Or.inl rfl | exact Or.inr (Or.inl rfl) | exact Or.inr (Or.inr rfl)) (hd : (x == ("__debug__" : Str)) = false := by decide)
    (hcd : (x == ("__classdict__" : Str)) = false := by decide) (hs : starEach (.Name x pos :: es) X.env = (false, eval (.Name x pos) X.env) :: starEach es X.env := by rfl) : EAO X W (.Name x pos :: es) (oS i g) := by
  intro F ρ σ B H Q L P
  refine PA.wa (pa_cons (pe_var hN hv hd hcd) pa_wa hs) ?_
  unfold oS at P
  split at P
  · rename_i s e0
    split at P
    · rename_i ow
      obtain ⟨v0, S0, q0, f0, _⟩ := L.own0 i s e0 ow
      refine ⟨v0, q0, ?_⟩
      refine hr F ρ σ B H _ L ?_
      cases q : g ρ with
      | fail => simp only [q] at P; exact P.elim
      | rz c ρ1 => simp only [q] at P; exact P
      | ok p ρ1 =>
        simp only [q] at P
        intro B1 H1 e1 L1 vs fs
        obtain ⟨S2, t2, nd2, g2⟩ := fs
        have fin : ∀ {s1 : Slot} {m : Mk} {S1 : List Addr}, ρ1[i]? = some s1 → owned s1 = true → Ft X.K B1 H1 v0 s1 S1 → Tr X.K B1 H1 m v0 s1.dat S1 → (∀ a ∈ S1, F.A a ∨ F.H0 a = none) → (∀ a ∈ S1, ¬ OwS X.K B1 H1 (ρ1.set i .un) σ a) → S1.Nodup → VT X.K F (ρ1.set i .un) σ B1 H1 (v0 :: vs) (s1.dat :: p.1, .cons m p.2) := by
          intro s1 m S1 h1 ow1 f1 t1 g1 no1 nd1
          refine ⟨S1 ++ S2, ?_, ?_, fun a ha => ?_⟩
          · unfold TrT
            exact ⟨v0, vs, s1.dat, p.1, S1, S2, rfl, rfl, t1, t2, rfl⟩
          · refine List.nodup_append.mpr ⟨nd1, nd2, fun a ha b hb z => ?_⟩
            subst z
            exact (g2 a hb).2 ⟨i, s1, v0, S1, h1, q0, f1, ha⟩
          · rcases List.mem_append.mp ha with ha | ha
            · exact ⟨g1 a ha, no1 a ha⟩
            · refine ⟨(g2 a ha).1, fun z => (g2 a ha).2 ?_⟩
              obtain ⟨j, s', v', S', n, e', q', f', m'⟩ := z.un
              exact ⟨j, s', v', S', e', q', f', m'⟩
        split at P
        · rename_i ds h1
          obtain ⟨v1, S1, q1, f1, g1, no1, L3⟩ := L1.take h1 rfl
          rw [q0] at q1; injection q1 with q1; injection q1 with q1; subst q1
          obtain ⟨a, rfl, w, rfl⟩ := f1
          have vo : VO X.K F (ρ1.set i .un) σ B1 H1 (.ref a) (.lst ds) .tt := ⟨a, rfl, w, g1 a (by simp), no1 a (by simp)⟩
          obtain ⟨S1, t1, nd1, g1'⟩ := vo.tr (m := .l .z) rfl
          have f1' : Ft X.K B1 H1 (.ref a) (.ow (.lst ds)) S1 := by
            unfold Tr at t1
            obtain ⟨a', vs', ds', T, e1, e2, b, q, it, rfl⟩ := t1
            injection e1 with e1; subst e1
            obtain ⟨_, rfl⟩ := it.z
            exact ⟨a, rfl, w, rfl⟩
          exact P B1 H1 e1 L3 _ (fin (s1 := .ow (.lst ds)) h1 rfl f1' t1 (fun a ha => (g1' a ha).1) (fun a ha => (g1' a ha).2) nd1)
        · rename_i m d h1
          obtain ⟨v1, S1, q1, f1, g1, no1, L3⟩ := L1.take h1 rfl
          rw [q0] at q1; injection q1 with q1; injection q1 with q1; subst q1
          exact P B1 H1 e1 L3 _ (fin (s1 := .dp m d) h1 rfl f1 f1.1 g1 no1 f1.2)
        · exact P.elim
    · exact P.elim
  · exact P.elim
def mTupO (f : M (List D × Mks)) : M (D × Ob) := M.bind f fun p => M.opt (if p.1.length ≤ 10000 then some (.tup p.1, .dp (.t p.2)) else none)
theorem eo_tupO {es : List Expr} {k : Nat} {f : M (List D × Mks)} (ha : EAO X W es f) : EO X W (.Tuple es k pos) (mTupO f) := by
  intro F ρ σ B H Q L P
  refine PE.we (pe_tup pa_wa) ?_
  refine ha F ρ σ B H _ L ((Post.bind P).imp fun p ρ1 B1 H1 e1 L1 P1 xs fs => ?_)
  obtain ⟨d, hd, k⟩ := P1.opt
  split at hd
  · injection hd with hd; subst hd
    obtain ⟨S, t, nd, g⟩ := fs
    refine ⟨len_line (by rw [t.len]; omega), fun q hq => ?_⟩
    have nB := L1.ex.nn hq
    have nq : ∀ {a : Addr}, Ct H1 a → a ≠ q := fun h z => h.ne (z ▸ hq)
    refine k (upd B1 q (.tup xs)) _ (Ex.new nB) (L1.alloc hq) _ ⟨S, ?_, nd, fun a ha => ⟨(g a ha).1, fun z => (g a ha).2 (z.back L1 (Ex.new nB) fun b w => ?_)⟩⟩
    · show Tr X.K (upd B1 q (.tup xs)) (upd H1 q (.tup xs)) (.t p.2) (.ref q) (.tup p.1) S
      unfold Tr
      exact ⟨q, xs, p.1, rfl, rfl, upd_same, t.keep (Ex.new nB) (fun a ha => by rw [upd_ne (nq (t.hid a ha).2)]; exact (t.hid a ha).1) (fun a ha o e => by rw [upd_ne (nq (t.hid a ha).2)]; exact e)⟩
    · have h := L1.hidOw w
      exact ⟨by rw [upd_ne (nq h.2)]; exact h.1, fun u e => by rw [upd_ne (nq h.2)]; exact e⟩
  · cases hd
def slotM : Mk → D → Slot
  | .z, d => .fz d
  | .l .z, d => .ow d
  | m, d => .dp m d
end
section
variable {ρ ρ1 ρ2 : Env} {i n : Nat} {α β : Type} {b : α}
theorem t_th {g : α → Prop} {f : M α} {s : Slot} (h : ρ[i]? = some s) (ow : owned s = true) (hf : f (ρ.set i (.fz s.dat)) = .ok b ρ1) (th : thH ρ (ρ1.set i .un)) (hg : g b) (hr : ρ1.set i s = ρ2) : mTh g i f ρ = .ok b ρ2 := by
  unfold mTh
  rw [h]; dsimp only; rw [if_pos ow, hf]; dsimp only; rw [if_pos ⟨th, hg⟩, hr]
theorem o0 : oNil ρ = .ok ([], .nil) ρ := rfl
theorem oF1 {f : M D} {g : M (List D × Mks)} {x : D} {xs : List D} {ms : Mks} (h1 : f ρ = .ok x ρ1) (h2 : g ρ1 = .ok (xs, ms) ρ2) : oF f g ρ = .ok (x :: xs, .cons .z ms) ρ2 := by
  unfold oF M.bind; rw [h1]; dsimp only; rw [h2]; rfl
theorem oS1 {g : M (List D × Mks)} {ds : List D} {s : Slot} {xs : List D} {ms : Mks} (h0 : ρ[i]? = some s) (ow : owned s = true) (h : g ρ = .ok (xs, ms) ρ1) (h2 : ρ1[i]? = some (.ow (.lst ds))) (hr : ρ1.set i .un = ρ2) : oS i g ρ = .ok (.lst ds :: xs, .cons (.l .z) ms) ρ2 := by
  unfold oS; rw [h0]; dsimp only; rw [if_pos ow, h]; dsimp only; rw [h2, hr]
theorem mtupO {f : M (List D × Mks)} {xs : List D} {ms : Mks} (h : f ρ = .ok (xs, ms) ρ1) (hl : Nat.ble xs.length 10000 = true := by rfl) : mTupO f ρ = .ok (.tup xs, .dp (.t ms)) ρ1 := by
  unfold mTupO M.bind; rw [h]; dsimp only; rw [if_pos (Nat.le_of_ble_eq_true hl)]; rfl
end
end Dt
namespace Dt
open PySem PySem.Spec PyProof.Rows L2
section
variable {ρ ρ1 ρ2 ρ3 ρ4 ρ5 : Env} {i : Nat} {α β γ δ : Type} {F : α → D} {G : β → D} {J : γ → D} {L : δ → D}
end
end Dt
namespace Dt
open PySem PySem.Spec PyProof.Rows L2
theorem sFrzD {ρ ρ2 : Env} {i : Nat} {d : D} {m : Mk} (h : ρ[i]? = some (.dp m d)) (e : ρ.set i (.fz d) = ρ2) : mFrz i ρ = .ok .nx ρ2 := by unfold mFrz; rw [h]; dsimp only; rw [e]
end Dt
namespace Crw
open PySem L2 Dt Std Net Look Law Thru
section
variable {net : Net}
noncomputable def lsts (net : Net) : List Int := (rangeI 0 (net.2.1.length : Int)).filter fun s => decide (ms net s = s)
structure CwX (net : Net) (c : List Int) : Prop where
  len : c.length = net.2.1.length
  fd : ∀ s (h : s < c.length), ms net (s : Int) ∈ lsts net ∧ c[s] = ((fstI (lsts net) (ms net (s : Int)) : Nat) : Int)
theorem crowd_of_x (g : Gd net) (S : SoundS net) : s_crowd_of net ∧ CwX net (t_crowd_of net) := by
  have n12 := g.s12
  unfold s_crowd_of t_crowd_of t_stands_of
  refine hd_eq (hd_eq ?_)
  refine hd_and trivial (hd_and ⟨by omega, by omega⟩ ?_)
  refine hd_last (hd_fold (CwI net) ⟨rfl, rfl, fun s h => absurd h (Nat.not_lt_zero _)⟩ (fun k hk z hz => ?_) (fun z hz => ⟨trivial, ?_⟩))
  · obtain ⟨fd, le⟩ := z
    obtain ⟨h1, h2, h3⟩ := hz
    dsimp only at h1 h2 h3 ⊢
    have tk := List.take_succ_eq_append_getElem hk
    have hk2 := hk
    rw [rangeI_len] at hk2
    rw [rangeI_get hk] at tk ⊢
    have e0 : (0 : Int) + (k : Int) = (k : Int) := by omega
    rw [e0] at tk ⊢
    have hu : (0 : Int) ≤ (k : Int) ∧ (k : Int) < net.2.1.length := ⟨by omega, by omega⟩
    obtain ⟨f1, f2, f3, f4, f5⟩ := ms_facts g hu
    have ll : le.length ≤ k := by
      rw [h2]
      exact Nat.le_trans (List.length_filter_le _ _) (by rw [List.length_take]; omega)
    -- the least stands so far, with this one
    have nle : (cond (decide (ms net (k : Int) = (k : Int))) (le ++ [(k : Int)]) le) = ((rangeI 0 (net.2.1.length : Int)).take (k + 1)).filter (fun s => decide (ms net s = s)) := by
      rw [tk, List.filter_append, ← h2, List.filter_cons, List.filter_nil]
      cases decide (ms net (k : Int) = (k : Int)) with
      | true => rfl
      | false => simp
    have min : ms net (k : Int) ∈ (cond (decide (ms net (k : Int) = (k : Int))) (le ++ [(k : Int)]) le) := by
      rw [nle, List.mem_filter]
      have mm : ms net (ms net (k : Int)) = ms net (k : Int) := ms_eq g S hu f2
      refine ⟨?_, decide_eq_true mm⟩
      rw [List.mem_iff_getElem]
      refine ⟨(ms net (k : Int)).toNat, by rw [List.length_take, rangeI_len]; omega, ?_⟩
      rw [List.getElem_take, rangeI_get]; omega
    refine ⟨⟨(can_go_ok g.goes hu).1, f1, fun _ => by omega, min, by omega⟩, ?_⟩
    refine (show CwI net (k + 1) (fd ++ [((fstI (cond (decide (ms net (k : Int) = (k : Int))) (le ++ [(k : Int)]) le) (ms net (k : Int)) : Nat) : Int)], cond (decide (ms net (k : Int) = (k : Int))) (le ++ [(k : Int)]) le) from ⟨?_, nle, fun s hs => ?_⟩)
    · rw [List.length_append, h1]; rfl
    · dsimp only at hs ⊢
      by_cases e : s < fd.length
      · obtain ⟨q1, q2⟩ := h3 s e
        have sub : ms net (s : Int) ∈ cond (decide (ms net (k : Int) = (k : Int))) (le ++ [(k : Int)]) le := by
          cases decide (ms net (k : Int) = (k : Int)) with
          | true => exact List.mem_append_left _ q1
          | false => exact q1
        refine ⟨sub, ?_⟩
        rw [List.getElem_append_left e, q2]
        cases decide (ms net (k : Int) = (k : Int)) with
        | true => show _ = ((fstI (le ++ [(k : Int)]) _ : Nat) : Int); rw [fstI_app q1]
        | false => rfl
      · rw [List.length_append, List.length_singleton] at hs
        have : s = k := by omega
        subst this
        refine ⟨min, ?_⟩
        rw [List.getElem_append_right (by omega)]
        simp [h1]
  · obtain ⟨fd, le⟩ := z
    obtain ⟨h1, h2, h3⟩ := hz
    dsimp only at h1 h2 h3 ⊢
    rw [rangeI_len] at h1
    rw [List.take_length] at h2
    refine (show CwX net fd from ⟨by omega, fun s hs => ?_⟩)
    obtain ⟨a1, a2⟩ := h3 s hs
    subst h2
    exact ⟨a1, a2⟩
theorem lsts_up : (lsts net).Pairwise (· < ·) := (range_lt _ _).filter _
theorem lsts_mem {s : Int} : s ∈ lsts net ↔ (0 ≤ s ∧ s < net.2.1.length) ∧ ms net s = s := by
  unfold lsts
  rw [List.mem_filter, mem_rangeI, decide_eq_true_eq]
theorem lsts_len : (lsts net).length ≤ net.2.1.length := by
  unfold lsts
  refine Nat.le_trans (List.length_filter_le _ _) ?_
  rw [rangeI_len]; omega
theorem fstI_lt {l : List Int} {x : Int} (h : x ∈ l) : fstI l x < l.length := (List.getElem?_eq_some_iff.mp (fstI_at h).1).1
theorem fstI_get {l : List Int} (nd : l.Pairwise (· < ·)) {i : Nat} (hi : i < l.length) : fstI l l[i] = i := by
  have hm := List.getElem_mem hi
  have a := (fstI_at hm).1
  have b := fstI_lt hm
  rw [List.getElem?_eq_getElem b] at a
  have a := Option.some.inj a
  rcases Nat.lt_trichotomy (fstI l l[i]) i with h | h | h
  · have := (List.pairwise_iff_getElem.mp nd) _ _ b hi h; omega
  · exact h
  · have := (List.pairwise_iff_getElem.mp nd) _ _ hi b h; omega
noncomputable def crd (net : Net) (u : Int) : List Int := (rangeI 0 (net.2.1.length : Int)).filter fun t => decide (ms net t = u)
theorem crd_mem {u t : Int} : t ∈ crd net u ↔ (0 ≤ t ∧ t < net.2.1.length) ∧ ms net t = u := by
  unfold crd
  rw [List.mem_filter, mem_rangeI, decide_eq_true_eq]
theorem crd_len {u : Int} : (crd net u).length ≤ net.2.1.length := by
  unfold crd
  refine Nat.le_trans (List.length_filter_le _ _) ?_
  rw [rangeI_len]; omega
structure CsI (net : Net) (m k : Nat) (z : List (List Int)) : Prop where
  len : z.length = m
  at_ : ∀ i : Nat, i < m → ix z (i : Int) = ((rangeI 0 (net.2.1.length : Int)).take k).filter fun s => decide (ix (t_crowd_of net) s = (i : Int))
def CsOut (net : Net) (r : List (List Int)) : Prop := r = (lsts net).map (crd net)
theorem crowd_stands_ok (g : Gd net) (S : SoundS net) : s_crowd_stands net ∧ CsOut net (t_crowd_stands net) := by
  have n12 := g.s12
  have n1 := g.s1
  obtain ⟨c1, c2, c3⟩ := crowd_of_x g S
  have lll := lsts_len (net := net)
  have nb : ∀ x ∈ t_crowd_of net, 0 ≤ x ∧ x < (lsts net).length := fun x hx => by
    obtain ⟨i, hi, rfl⟩ := List.mem_iff_getElem.mp hx
    obtain ⟨a, b⟩ := c3 i hi
    rw [b]
    have := fstI_lt a
    omega
  have ne : t_crowd_of net ≠ [] := fun z => by rw [z] at c2; simp at c2; omega
  have m0 := ms_facts g (u := 0) ⟨by decide, by omega⟩
  have z0 : (0 : Int) ∈ lsts net := lsts_mem.mpr ⟨⟨by decide, by omega⟩, by have := m0.2.2.2; omega⟩
  have lp : 0 < (lsts net).length := List.length_pos_of_mem z0
  have mx : maxL (t_crowd_of net) + 1 = (lsts net).length := by
    have a := (nb _ (maxL_mem ne)).2
    have hl : (lsts net).length - 1 < (lsts net).length := by omega
    have q := List.getElem_mem hl
    have e := lsts_mem.mp q
    obtain ⟨s, es⟩ : ∃ s : Nat, (lsts net)[(lsts net).length - 1] = (s : Int) := ⟨((lsts net)[(lsts net).length - 1]).toNat, by omega⟩
    rw [es] at e q
    have hs : s < (t_crowd_of net).length := by omega
    obtain ⟨_, b⟩ := c3 s hs
    have f := fstI_get lsts_up hl
    rw [es] at f
    rw [e.2, f] at b
    have c := le_maxL (List.getElem_mem hs)
    omega
  unfold s_crowd_stands t_crowd_stands
  refine hd_and c1 (hd_bd (fun z => z = t_crowd_of net) rfl ?_)
  rintro _ rfl
  have rl : (rangeI 0 (net.2.1.length : Int)).length = net.2.1.length := by rw [rangeI_len]; omega
  rw [mx]
  have ml : (rangeI 0 ((lsts net).length : Int)).length = (lsts net).length := by rw [rangeI_len]; omega
  refine hd_and ne (hd_and ⟨by omega, by omega⟩ (hd_and (by omega) (hd_bd (fun (z : List (List Int)) => CsI net (lsts net).length 0 z) ⟨by rw [List.length_map]; exact ml, fun i hi => ?_⟩ ?_)))
  · rw [ix_get (by rw [List.length_map]; omega), List.getElem_map]; rfl
  intro z0 hz0
  refine hd_last (hd_fold (CsI net (lsts net).length) hz0 (fun k hk z hz => ?_) (fun z hz => ⟨trivial, ?_⟩))
  · have hk1 : k < (t_crowd_of net).length := by rw [enumI_len] at hk; exact hk
    rw [enum_get hk hk1]
    have b := nb _ (List.getElem_mem hk1)
    obtain ⟨i, ei⟩ : ∃ i : Nat, (t_crowd_of net)[k] = (i : Int) := ⟨(t_crowd_of net)[k].toNat, by omega⟩
    dsimp only
    rw [ei]
    have hi : i < (lsts net).length := by omega
    have zi := hz.at_ i hi
    have hkr : k < (rangeI 0 (net.2.1.length : Int)).length := by omega
    have zl : (ix z (i : Int)).length ≤ 12 := by
      rw [zi]
      refine Nat.le_trans (List.length_filter_le _ _) ?_
      rw [List.length_take]; omega
    have hl := hz.len
    simp only [bd_eq]
    refine ⟨⟨inB_nat (by omega) (by omega), by omega⟩, by rw [setI_len]; exact hl, fun j hj => ?_⟩
    rw [Thru.ix_set (by omega) (by omega), List.take_succ_eq_append_getElem hkr, List.filter_append, rangeI_get]
    have x0 : (0 : Int) + (k : Int) = (k : Int) := by omega
    have kn : ix (t_crowd_of net) (k : Int) = (i : Int) := by rw [ix_get hk1]; exact ei
    rw [x0]
    by_cases c : i = j
    · subst c
      rw [if_pos rfl, zi]
      have : [(k : Int)].filter (fun s => decide (ix (t_crowd_of net) s = (i : Int))) = [(k : Int)] := by simp [kn]
      rw [this]
    · rw [if_neg c, hz.at_ j hj]
      have : [(k : Int)].filter (fun s => decide (ix (t_crowd_of net) s = (j : Int))) = [] := by
        have : ¬ (i : Int) = (j : Int) := by omega
        simp [kn, this]
      rw [this, List.append_nil]
  · have hl := hz.len
    show z = (lsts net).map (crd net)
    refine List.ext_getElem (by rw [List.length_map]; exact hl) fun i h1 h2 => ?_
    have q := hz.at_ i (by omega)
    rw [ix_get h1, enumI_len, List.take_of_length_le (by omega)] at q
    rw [q, List.getElem_map]
    unfold crd
    refine List.filter_congr fun t ht => ?_
    rw [mem_rangeI] at ht
    obtain ⟨t', rfl⟩ : ∃ k : Nat, t = k := ⟨t.toNat, by omega⟩
    have ht' : t' < (t_crowd_of net).length := by omega
    obtain ⟨a, b⟩ := c3 t' ht'
    have hi : i < (lsts net).length := by omega
    have fg := fstI_get lsts_up hi
    rw [ix_get ht', b]
    refine decide_eq_decide.mpr ⟨fun e => ?_, fun e => ?_⟩
    · exact fstI_inj a (List.getElem_mem hi) (by omega)
    · rw [e, fg]
noncomputable def crp (net : Net) (u : Int) : List Int × Int := (crd net u, ((crd net u).map (ix (numI net.2.2.2))).sum)
def CrOut (net : Net) (r : List (List Int × Int)) : Prop := r = (lsts net).map (crp net)
theorem crowds_ok (g : Gd net) (so : t_is_sound net = true) (ho : t_is_open net = false) : s_crowds net ∧ CrOut net (t_crowds net) := by
  have n12 := g.s12
  have Sd := (is_sound_shut g ho).mp so
  obtain ⟨d1, d2⟩ := crowd_stands_ok g Sd
  have d2 : t_crowd_stands net = (lsts net).map (crd net) := d2
  have lll := lsts_len (net := net)
  obtain ⟨k1, k2⟩ : net.2.2.2.isRight = true ∧ (numI net.2.2.2).length = net.2.1.length := by
    rcases g.kind with ⟨k, _⟩ | ⟨_, k1, k2⟩
    · rw [ho] at k; cases k
    · exact ⟨k1, k2⟩
  have bc : ∀ s, t_begin_count net s = ix (numI net.2.2.2) s := fun s => by unfold t_begin_count; rw [ho]; rfl
  unfold s_crowds t_crowds
  rw [ho]
  refine ⟨⟨ask_sound_s g so, trivial, (fun z => by cases z), fun _ => ⟨d1, fun l hl => ?_, by rw [d2, List.length_map]; omega⟩⟩, ?_⟩
  · rw [d2] at hl
    obtain ⟨u, _, rfl⟩ := List.mem_map.mp hl
    refine ⟨fun s hs => ⟨trivial, fun _ => ⟨k1, ?_⟩⟩, by have := crd_len (net := net) (u := u); omega⟩
    have := (crd_mem.mp hs).1
    exact inB_nat this.1 (by rw [k2]; exact this.2)
  · show (t_crowd_stands net).map _ = _
    rw [d2, List.map_map]
    refine List.map_congr_left fun u _ => ?_
    show (crd net u, _) = (crd net u, _)
    congr 2
    exact List.map_congr_left fun s _ => bc s
end
end Crw
namespace Dt
open PySem PySem.Spec PyProof.Rows L2 PySem.W
abbrev LI := List Int × Int
def liPy (p : LI) : PyData := .tuple [.list (p.1.map .int), .int p.2]
def liD (p : LI) : D := .tup [.lst (p.1.map .int), .int p.2]
def liLe (p q : LI) : Bool := dataLe false liPy p q
noncomputable def sortLI (l : List LI) : List LI := l.mergeSort liLe
theorem li_alike (p q : LI) : alike (liPy p) (liPy q) = true := by
  unfold liPy
  simp only [alike, alikeAll, alike_ints]
  rfl
theorem li_depth (p : LI) : (liPy p).depth ≤ 2 := by
  unfold liPy
  simp only [PyData.depth, PyData.depthAll, depth_ints]
  omega
theorem each_of {xs : List V} {us : List Value} (h : Vals xs us) : ∀ {l : List LI}, xs.length = l.length → EachIs (fun (u : Value) (b : V × LI) => RelV b.1 u) us (xs.zip l) := by
  induction h with
  | nil => intro l _; exact .nil
  | cons hx _ ih =>
    intro l hl
    cases l with
    | nil => simp at hl
    | cons p l => exact .cons hx (ih (by simpa using hl))
theorem vals_of : ∀ {us : List Value} {bs : List (V × LI)}, EachIs (fun (u : Value) (b : V × LI) => RelV b.1 u) us bs → Vals (bs.map (·.1)) us
  | _, _, .nil => .nil
  | _, _, .cons h t => .cons h (vals_of t)
def rSortLI (K : PySem.W.Frag) : List V → Hp → VK → Prop := fun vs H Q => ∃ (a : Addr) (xs : List V) (l : List LI), vs = [V.ref a] ∧ SqL K H a xs ∧ xs.length = l.length ∧ DpAll K H xs (l.map liPy) ∧
  ∀ p, H p = none → Q (.ref p) (upd H p (.lst (((xs.zip l).mergeSort fun a b => liLe a.2 b.2).map (·.1))))
theorem cr_sortLI {X : Cx} (hu : X.A.units + 64 < cLine) : CallR X (.builtin "sorted") (rSortLI X.K) := by
  intro pins s σ H vs us Q I r h
  obtain ⟨a, xs, l, rfl, hs, hlen, hd, q⟩ := h
  obtain ⟨its, rv, hl, hz⟩ := I.list hs
  obtain ⟨u, rfl, ru⟩ := vals1 r
  obtain rfl : u = Value.ref a := ru
  obtain ⟨as, ra⟩ := Dp.readsAll I _ _ _ hd rv
  have em : (xs.zip l).map (fun b => liPy b.2) = l.map liPy := by
    have : (xs.zip l).map (fun b => liPy b.2) = ((xs.zip l).map Prod.snd).map liPy := by rw [List.map_map]; rfl
    rw [this, List.map_snd_zip (by omega)]
  rw [← em] at ra
  have er := readsAll_each (h := s.heap) (fun b : V × LI => liPy b.2) ra
  refine sorted_data (bs := xs.zip l) (enc := fun b => liPy b.2) (R := fun (u : Value) (b : V × LI) => RelV b.1 u) hl.isList (each_of rv hlen) er (fun d hd d' hd' => ?_) (Sortable.tuples fun b => ⟨_, _, rfl⟩) (by rw [List.length_zip]; omega) (fun b hb => ?_) fun out lo eo => ?_
  · obtain ⟨b, _, rfl⟩ := List.mem_map.mp hd
    obtain ⟨b', _, rfl⟩ := List.mem_map.mp hd'
    exact li_alike _ _
  · have := li_depth b.2
    omega
  · have vo := vals_of eo
    have fr := I.hok.fresh (a := s.heap.objs.size + 1) (Nat.le_succ _)
    obtain ⟨n, hn⟩ := sortedAll_at s.heap its out.toArray
    refine ⟨.ref (s.heap.objs.size + 1), upd H (s.heap.objs.size + 1) (.lst (((xs.zip l).mergeSort fun a b => liLe a.2 b.2).map (·.1))), I.laid (t' := s.toks) (fun b o e => sortedAll_old e) (Nat.le_succ _) ⟨?_, out, n, vo, hn⟩, rfl, q _ fr⟩
    rw [List.length_map, List.length_mergeSort, List.length_zip]
    omega
def asI1 : D → Option LI
  | .tup [.lst ds, .int k] => (asInts ds).map fun ns => (ns, k)
  | _ => none
def asLI : List D → Option (List LI)
  | [] => some []
  | d :: ds => (asI1 d).bind fun p => (asLI ds).map (p :: ·)
theorem asI1_eq {d : D} {p : LI} (h : asI1 d = some p) : d = liD p := by
  unfold asI1 at h
  split at h
  · rename_i ds k
    cases q : asInts ds with
    | none => rw [q] at h; cases h
    | some ns =>
      rw [q] at h
      injection h with h
      subst h
      rw [asInts_eq q]; rfl
  · cases h
theorem asLI_eq : ∀ {ds : List D} {l : List LI}, asLI ds = some l → ds = l.map liD
  | [], l, h => by
    injection h with h
    subst h; rfl
  | d :: ds, l, h => by
    unfold asLI at h
    cases q : asI1 d with
    | none => rw [q] at h; cases h
    | some p =>
      rw [q] at h
      cases q2 : asLI ds with
      | none =>
        rw [q2] at h; cases h
      | some r =>
        rw [q2] at h
        injection h with h
        subst h
        rw [asI1_eq q, asLI_eq q2]; rfl
theorem asLI_map : ∀ l : List LI, asLI (l.map liD) = some l
  | [] => rfl
  | p :: l => by
    have e : asI1 (liD p) = some p := by
      show (asInts (p.1.map D.int)).map _ = _
      rw [asInts_map]; rfl
    rw [List.map_cons]
    unfold asLI
    rw [e, asLI_map l]; rfl
noncomputable def mSortLI (f : M (List D)) : M (D × Ob) := M.bind f fun xs => M.opt (match xs with
  | [.lst ds] => (asLI ds).map fun l => (.lst ((sortLI l).map liD), .tt)
  | _ => none)
theorem li_pys (l : List LI) : D.pys (l.map liD) = l.map liPy := by
  have hint : ∀ ns : List Int, D.pys (ns.map D.int) = ns.map PyData.int := fun ns => by
    induction ns with
    | nil => rfl
    | cons n r ih => rw [List.map_cons, List.map_cons, D.pys, ih]; rfl
  induction l with
  | nil => rfl
  | cons p r ih =>
    rw [List.map_cons, List.map_cons, D.pys, ih]
    congr 1
    unfold liD liPy
    simp only [D.py, D.pys, hint]
theorem li_nds (l : List LI) : D.nds (l.map liD) = true := by
  have hint : ∀ ns : List Int, D.nds (ns.map D.int) = true := fun ns => by
    induction ns with
    | nil => rfl
    | cons n r ih => rw [List.map_cons, D.nds, ih]; rfl
  induction l with
  | nil => rfl
  | cons p r ih =>
    rw [List.map_cons, D.nds, ih]
    unfold liD
    simp only [D.nd, D.nds, hint]
    rfl
theorem eo_sortLI {X : Cx} {W : WX} {a : Expr} {p pos : Pos} {f : M (List D)} (hu : X.A.units + 64 < cLine) (hm : X.mg "sorted" = none) (ha : EA X W [a] f) (hg : Gl X "sorted" := by rfl) (he : starEach (a :: []) X.env = (false, eval a X.env) :: starEach [] X.env := by rfl) : EO X W (.Call (.Name "sorted" p) [a] [] pos) (mSortLI f) := by
  intro F ρ σ B H Q L P
  refine PE.we (pe_callB (cr_sortLI hu) hg hm (by decide +kernel) pa_wa (by decide) (by decide) he) ?_
  refine ha F ρ σ B H _ L ((Post.bind P).imp fun ds ρ1 B1 H1 e1 L1 P1 vs fs => ?_)
  obtain ⟨d, hd, k⟩ := P1.opt
  split at hd
  · rename_i xs
    cases q : asLI xs with
    | none => rw [q] at hd; cases hd
    | some l =>
      rw [q] at hd
      injection hd with hd; subst hd
      have exs := asLI_eq q
      subst exs
      cases fs with
      | cons f fs =>
        cases fs
        cases f with
        | @lst a ys _ h1 fs =>
          have ll : ys.length = l.length := by rw [fs.len, List.length_map]
          have dp := Fzs.dp (H := H1) L1.ex (li_nds l) fs
          rw [li_pys] at dp
          refine ⟨a, ys, l, rfl, .inl (.inl (L1.ex _ _ h1)), ll, dp, fun p hr => ?_⟩
          have fi : ∀ z ∈ ys.zip l, Fz X.K B1 z.1 (liD z.2) := fun z hz => by
            obtain ⟨i, hi, e⟩ := List.mem_iff_getElem.mp hz
            rw [List.getElem_zip] at e
            rw [List.length_zip] at hi
            obtain ⟨v, e2, f⟩ := fs.get (i := i) (d := liD (l[i]'(by omega))) (by rw [List.getElem?_map, List.getElem?_eq_getElem (by omega)]; rfl)
            rw [List.getElem?_eq_getElem (by omega)] at e2
            injection e2 with e2
            rw [← e]
            dsimp only
            rw [e2]; exact f
          have fz : Fzs X.K B1 (((ys.zip l).mergeSort fun a b => liLe a.2 b.2).map (·.1)) (((ys.zip l).mergeSort fun a b => liLe a.2 b.2).map fun z => liD z.2) := Fzs.of_all fun z hz => fi z ((List.mergeSort_perm _ _).mem_iff.mp hz)
          have e4 : (((ys.zip l).mergeSort fun a b => liLe a.2 b.2).map fun z => liD z.2) = (sortLI l).map liD := by
            have e5 : (((ys.zip l).mergeSort fun a b => liLe a.2 b.2).map Prod.snd) = sortLI l := by
              rw [List.map_mergeSort (r := fun a b : V × LI => liLe a.2 b.2) (s := liLe) (f := Prod.snd) (fun _ _ _ _ => rfl), List.map_snd_zip (by omega)]
              rfl
            rw [← e5, List.map_map]; rfl
          rw [e4] at fz
          obtain ⟨L2, v2⟩ := L1.newL hr fz
          exact k B1 _ (Ex.refl _) L2 _ v2
  · cases hd
theorem t_sortLI {l : List LI} {ρ ρ1 : Env} {fs : M (List D)} (h : fs ρ = .ok [eL (eT2 (eL D.int) D.int) l] ρ1) : mSortLI fs ρ = .ok (eL (eT2 (eL D.int) D.int) (sortLI l), .tt) ρ1 := by
  have e : eL (eT2 (eL D.int) D.int) l = .lst (l.map liD) := rfl
  rw [e] at h
  unfold mSortLI M.bind
  rw [h]
  dsimp only
  rw [asLI_map]
  rfl
end Dt
namespace Dt
open PySem PySem.Spec PyProof.Rows L2
def rIsET (K : PySem.W.Frag) (D a : Addr) : List V → Hp → VK → Prop := fun xs H Q => ∃ (tp : Addr) (cs : List V) (us : List Value) (b : Bool), xs = [.ref a, .ref tp] ∧ H tp = some (.tup cs) ∧ Paired ClsV cs us ∧ PySem.W.kitAny K (.ref D) us = some b ∧ Q (.bl b) H
theorem call_isET {X : Cx} {a D : Addr} {oe : Obj} {pn : List (Addr × Obj)} (C : L2.ExcC X.K D) (hz : Zc (.ref D) none oe) (hf : ∃ vs, oe.data = .fields vs) : CallR (X.suite a ((a, oe) :: pn)) (.builtin "isinstance") (rIsET X.K D a) := by
  intro pins s σ H xs us Q I r h
  obtain ⟨tp, cs, ws, b, rfl, hT, k, e, q⟩ := h
  obtain ⟨u1, u2, rfl, r1, r2⟩ := vals2 r
  cases (show u1 = Value.ref a from r1)
  cases (show u2 = Value.ref tp from r2)
  obtain ⟨hget, _⟩ := I.pin (a, oe) (List.mem_append.mpr (.inl List.mem_cons_self))
  obtain ⟨vs, hv⟩ := hf
  have J : PySem.W.InstAt s.heap a oe D none := by
    obtain ⟨oc, od, oda, osl⟩ := oe
    obtain ⟨h1, h2⟩ := hz
    dsimp only at h1 h2 hv
    subst h1 h2 hv
    exact ⟨hget, rfl, rfl, trivial⟩
  obtain ⟨_, its, rv, o, h1, h2, n, h3⟩ := (show ObjOk X.prog X.w H s.heap tp (.tup cs) from I.hok tp _ hT)
  have e3 := ClsV.all k rv
  subst e3
  obtain ⟨oc, od, dt, sl⟩ := o
  simp only at h2 h3
  subst h2 h3
  exact PySem.W.kia_tup (PySem.W.handS_kitx_exc C.hg C.hk C.hs C.hd C.ha C.hn C.ht C.hm) I.kIn J h1 e (fun z => nomatch z) fun tk => ⟨.bl b, H, I.kept (t' := tk) fun _ _ z => z, rfl, q⟩
def XeC (K : PySem.W.Frag) (mg : Str → Option Value) (c : Str) : Prop := ∃ D, mg c = some (.ref D) ∧ L2.ExcC K D
def Hld (X : Cx) (a : Addr) (c : Str) : Prop := ∃ D, X.mg c = some (.ref D) ∧ CallR X (.builtin "isinstance") (rIsE X.K D a) ∧ CallR X (.builtin "isinstance") (rIsET X.K D a)
theorem hld_of {X : Cx} {a : Addr} {oe : Obj} {pn : List (Addr × Obj)} {c : Str} (h : XeC X.K X.mg c) (hz : Zc (cv X c) none oe) (hf : ∃ vs, oe.data = .fields vs) : Hld (X.suite a ((a, oe) :: pn)) a c := by
  obtain ⟨D, e, C⟩ := h
  have e2 : cv X c = .ref D := by unfold cv; rw [e]; rfl
  rw [e2] at hz
  exact ⟨D, e, call_isE C hz hf, call_isET C hz hf⟩
def NmC (mg : Str → Option Value) (T : Str) (u : Value) : Prop := (∃ E, u = .ref E ∧ mg T = some (.ref E)) ∨ (∃ Tn, u = .type Tn ∧ mg T = none ∧ bootBuiltins T = some (.type Tn))
def IsM (K : PySem.W.Frag) (mg : Str → Option Value) (c T : Str) (b : Bool) : Prop := ∃ u, NmC mg T u ∧ PySem.W.kitOne K ((mg c).getD .none) u = some b
theorem isM_of {K : PySem.W.Frag} {mg : Str → Option Value} {c T : Str} {b : Bool} (x : ExC K mg T) (m : ExM K mg c T b) (r : ExM K mg c c true) : IsM K mg c T b := by
  obtain ⟨E, gE, _⟩ := x
  refine ⟨.ref E, .inl ⟨E, rfl, gE⟩, ?_⟩
  unfold ExM at m r
  rw [gE] at m
  have e0 : ∀ {x y : Value} {b : Bool}, PySem.W.exmOne K x y = some b → PySem.W.kitCls K x y = some b := fun {x y b} h => by
    unfold PySem.W.exmOne at h
    split at h
    · exact h
    · cases h
  unfold PySem.W.kitOne
  by_cases q : ((mg c).getD .none == Value.ref E) = true
  · rw [if_pos q]
    have e := beq_iff_eq.mp q
    rw [e] at m r
    have := e0 r
    have := e0 m
    simp_all [Option.getD]
  · rw [if_neg q]; exact e0 m
def IsA (K : PySem.W.Frag) (mg : Str → Option Value) (ks : List Str) (T : Str) (tk : List Str) : Prop := ∀ c ∈ ks, IsM K mg c T (decide (c ∈ tk))
theorem isa_nil {K : PySem.W.Frag} {mg : Str → Option Value} {T : Str} {tk : List Str} : IsA K mg [] T tk := fun c h => absurd h List.not_mem_nil
theorem isa_cons {K : PySem.W.Frag} {mg : Str → Option Value} {T : Str} {tk : List Str} {c : Str} {ks : List Str} {b : Bool} (e : IsM K mg c T b) (r : IsA K mg ks T tk) (hb : decide (c ∈ tk) = b := by decide) : IsA K mg (c :: ks) T tk := fun x hx => by
  rcases List.mem_cons.mp hx with rfl | hx
  · rw [hb]; exact e
  · exact r x hx
section
variable {X : Cx} {W : WX} {i : Nat} {a : Addr} {e e1 e2 : Expr} {pos : Pos} {c : Str} {ks : List Str}
def EVe (X : Cx) (W : WX) (i : Nat) (a : Addr) (e : Expr) (f : M D) : Prop := ∀ (F : Fr) (ρ : Env) (σ : St) (B H : Hp) (Q : VK), σ[i]? = some (some (.ref a)) → Lv X.K F ρ σ B H →
  Post X W F σ B (f ρ) (fun d _ B' H' => ∀ v, Fz X.K B' v d → Q v H') → we X e σ H Q
def mIsE (c : Str) (tk : List Str) : M D := M.pure (.bl (decide (c ∈ tk)))
theorem pe_nmC {T : Str} {u : Value} {p2 : Pos} (h : NmC X.mg T u) (hgT : Gl X T) (hn : T ≠ "__name__") (hd : (T == ("__debug__" : Str)) = false) : ∃ v, ClsV v u ∧ PE X (.Name T p2) (tC v) := by
  rcases h with ⟨E, rfl, g⟩ | ⟨Tn, rfl, n, b⟩
  · exact ⟨.ref E, .own E, pe_glob hgT g rfl hd⟩
  · exact ⟨.ty Tn, .ty Tn, pe_bltn hgT n b rfl hn hd⟩
theorem eve_is {x T : Str} {tk : List Str} {px p2 p : Pos} (hH : Hld X a c) (hm : X.mg "isinstance" = none) (A : IsA X.K X.mg ks T tk) (hc : c ∈ ks) (hi : X.N[i]? = some x := by rfl) (hv : Vis X.env.scope x := by first | exact Or.inl rfl | exact Or.inr (Or.inl rfl) | exact Or.inr (Or.inr rfl)) (hdx : (x == ("__debug__" : Str)) = false := by decide)
    (hcd : (x == ("__classdict__" : Str)) = false := by decide) (hg : Gl X "isinstance" := by rfl) (hgT : Gl X T := by rfl) (hn : T ≠ "__name__" := by decide) (hd : (T == ("__debug__" : Str)) = false := by decide)
    (he : starEach (.Name x px :: [.Name T p2]) X.env = (false, eval (.Name x px) X.env) :: starEach [.Name T p2] X.env := by rfl) (he2 : starEach (.Name T p2 :: []) X.env = (false, eval (.Name T p2) X.env) :: starEach [] X.env := by rfl) (hpl : (backTo pos (starEach [.Name T p2] X.env)).any (·.1) = false := by rfl) :
    EVe X W i a (.Call (.Name "isinstance" p) [.Name x px, .Name T p2] [] pos) (mIsE c tk) := by
  intro F ρ σ B H Q hs L P
  obtain ⟨D, gD, c1, _⟩ := hH
  obtain ⟨u, nu, ku⟩ := A c hc
  obtain ⟨v, cl, pT⟩ := pe_nmC (p2 := p2) nu hgT hn hd
  refine PE.we (pe_callB c1 hg hm (by decide +kernel) (pa_cons (pe_var hi hv hdx hcd) (pa_cons pT pa_nil he2) he) (by decide) (by decide) he hpl) ?_
  rw [gD] at ku
  refine ⟨.ref a, hs, v, u, _, rfl, fun w r => cl.eq r, ku, ?_⟩
  exact P B H (Ex.refl _) L _ (.bl _)
def PostE (X : Cx) (W : WX) (F : Fr) (B : Hp) (i : Nat) (a : Addr) (r : Rs Fl) (N : Ends) : Prop :=
  match r with
  | .ok .nx ρ' => ∀ σ' B' H', Ex B B' → σ'[i]? = some (some (.ref a)) → Lv X.K F ρ' σ' B' H' → N.nx σ' H'
  | r => PostS X W F B r N
theorem PostE.weak {F : Fr} {B B1 : Hp} {r : Rs Fl} {N : Ends} (h : PostE X W F B i a r N) (e : Ex B B1) : PostE X W F B1 i a r N := by
  cases r with
  | ok fl ρ =>
    cases fl with
    | nx => exact fun σ' B' H' e' q L => h σ' B' H' (e.trans e') q L
    | bk => exact PostS.weak (X := X) (W := W) (N := N) (r := .ok .bk ρ) h e
    | ct => exact PostS.weak (X := X) (W := W) (N := N) (r := .ok .ct ρ) h e
    | rt d o => exact PostS.weak (X := X) (W := W) (N := N) (r := .ok (.rt d o) ρ) h e
  | rz c ρ => exact PostS.weak (X := X) (W := W) (N := N) (r := .rz c ρ) h e
  | fail => exact h
theorem PostE.bind {F : Fr} {B : Hp} {σ : St} {α : Type} {ρ : Env} {f : M α} {g : α → M Fl} {N : Ends} (h : PostE X W F B i a (M.bind f g ρ) N) : Post X W F σ B (f ρ) (fun x ρ1 B1 _ => PostE X W F B1 i a (g x ρ1) N) := by
  unfold M.bind at h
  cases q : f ρ with
  | ok x ρ' => rw [q] at h; exact fun B' H' e L => PostE.weak h e
  | rz c ρ' => rw [q] at h; exact fun B' H' e L => h σ B' H' e L
  | fail => rw [q] at h; exact h
def SVe (X : Cx) (W : WX) (i : Nat) (a : Addr) (st : Stmt) (f : M Fl) : Prop := ∀ (F : Fr) (ρ : Env) (σ : St) (B H : Hp) (N : Ends), σ[i]? = some (some (.ref a)) → Lv X.K F ρ σ B H → PostE X W F B i a (f ρ) N → ws X st N σ H
def SVes (X : Cx) (W : WX) (i : Nat) (a : Addr) (sts : List Stmt) (f : M Fl) : Prop := ∀ (F : Fr) (ρ : Env) (σ : St) (B H : Hp) (N : Ends), σ[i]? = some (some (.ref a)) → Lv X.K F ρ σ B H → PostE X W F B i a (f ρ) N → wss X sts N σ H
theorem sves_one {st : Stmt} {f : M Fl} (h1 : SVe X W i a st f) : SVes X W i a [st] f := fun F ρ σ B H N hs L P => PSs.wss (pss_one ps_ws) (h1 F ρ σ B H N hs L P)
def EOe (X : Cx) (W : WX) (i : Nat) (a : Addr) (e : Expr) (f : M (D × Ob)) : Prop := ∀ (F : Fr) (ρ : Env) (σ : St) (B H : Hp) (Q : VK), σ[i]? = some (some (.ref a)) → Lv X.K F ρ σ B H →
  Post X W F σ B (f ρ) (fun p ρ' B' H' => ∀ v, VO X.K F ρ' σ B' H' v p.1 p.2 → Q v H') → we X e σ H Q
theorem eoe_of {f : M D} (h : EVe X W i a e f) : EOe X W i a e (mOf f) := by
  intro F ρ σ B H Q hs L P
  exact h F ρ σ B H Q hs L ((Post.bind P).imp fun d ρ1 B1 H1 e1 L1 P1 v w => P1 B1 H1 (Ex.refl _) L1 v w)
theorem sve_ret {f : M (D × Ob)} (he : EOe X W i a e f) : SVe X W i a (.Return (some e) pos) (mRet f) := by
  intro F ρ σ B H N hs L P
  refine PS.ws (ps_ret pe_we) ?_
  exact he F ρ σ B H _ hs L ((PostE.bind P).imp fun p ρ1 B1 H1 e1 L1 P1 v w => P1 v σ B1 H1 (Ex.refl _) L1 w)
structure Cle where
  nm : Str
  takes : List Str
  g : Str → M Fl
def unI (i : Nat) : Rs Fl → Rs Fl
  | .ok .nx ρ => .ok .nx (ρ.set i .un)
  | .ok .bk ρ => .ok .bk (ρ.set i .un)
  | .ok .ct ρ => .ok .ct (ρ.set i .un)
  | r => r
def mTryAs (ks : List Str) (i : Nat) (k : Cle) (f : M Fl) : M Fl := fun ρ => match f ρ with
  | .rz c ρ' => if c ∈ ks ∧ Nat.ble (i + 1) ρ'.length = true then (if c ∈ k.takes then unI i (k.g c (ρ'.set i .un)) else .rz c ρ') else .fail
  | .ok a ρ' => .ok a ρ'
  | .fail => .fail
theorem Lv.void {K : PySem.W.Frag} {F : Fr} {ρ : Env} {σ : St} {B H : Hp} (L : Lv K F ρ σ B H) (i : Nat) : Lv K F (ρ.set i .un) (σ.set i none) B H := by
  have sg : ∀ {j : Nat}, j ≠ i → (σ.set i none)[j]? = σ[j]? := fun {j} h => List.getElem?_set_ne (Ne.symm h)
  refine L.few (by rw [List.length_set, List.length_set]; exact L.len) (fun j d e1 => ?_) (fun j s e1 w1 => ?_)
  · rcases get_set e1 with ⟨rfl, z, l⟩ | ⟨n, e1⟩
    · cases z
    · rw [sg n]; exact L.fz j d e1
  · rcases get_set e1 with ⟨rfl, z, l⟩ | ⟨n, e1⟩
    · rw [z] at w1; cases w1
    · exact ⟨e1, sg n⟩
theorem sv_try_as {x n : Str} {body suite : List Stmt} {b₀ : Stmt} {np pos' : Pos} {f : M Fl} {k : Cle} (hs : X.stack = X.env :: X.outer) (hf : X.env.frame = some X.env.locals) (hN : X.N.Nodup) (tk : Takes X W) (hi : X.N[i]? = some n) (hln : X.env.kindOf n = some .local)
    (hc : ExC X.K X.mg k.nm) (hx : x = k.nm) (hg : Gl X x) (hd : (x == ("__debug__" : Str)) = false) (ha : ExA X.K X.mg ks ⟨k.nm, k.takes, mNx⟩) (hxe : ∀ c ∈ ks, XeC X.K X.mg c)
    (hb : ∀ (W2 : WX) (pn : List (Addr × Obj)) (xe : Value → Shared → Prop), Takes (X.tr pn xe) W2 → PassesOwn (model X.prog X.w) X.A X.env xe → SVs (X.tr pn xe) W2 body f)
    (hsu : ∀ (c : Str), c ∈ ks → ∀ (a : Addr) (oe : Obj) (pn : List (Addr × Obj)), Hld (X.suite a ((a, oe) :: pn)) a c → SVes (X.suite a ((a, oe) :: pn)) W i a (b₀ :: suite) (k.g c)) :
    SV X W (.Try body [.ExceptHandler (some (.Name x np)) (some n) (b₀ :: suite) pos'] [] [] pos) (mTryAs ks i k f) := by
  obtain ⟨C, gC, _⟩ := id hc
  subst hx
  intro F ρ σ B H N L P
  refine PS.ws (ps_try_as (ts := fun a cls d N σ H => ∀ (oe : Obj) (pn : List (Addr × Obj)), Zc cls d oe → (∃ vs, oe.data = .fields vs) → wss (X.suite a ((a, oe) :: pn)) (b₀ :: suite) N σ H)
    (tb := fun W2 D σ H => ∀ (pn : List (Addr × Obj)) (xe : Value → Shared → Prop), Takes (X.tr pn xe) W2 → PassesOwn (model X.prog X.w) X.A X.env xe → wss (X.tr pn xe) body D σ H) hs hf hN hi hln ⟨hg, hd, .inl gC⟩ tk
    (fun W2 pn xe t2 p2 => ⟨fun pins s σ H N I h => Wss.run (h pn xe t2 p2) pins s I⟩) (fun a oe cls d pn z v => ⟨fun pins s σ H N I h => Wss.run (h oe pn z v) pins s I⟩)) ?_
  intro pn xe t2 p2
  refine hb _ pn xe t2 p2 F ρ σ B H N L ?_
  unfold mTryAs at P
  cases q : f ρ with
  | ok a ρ' =>
    rw [q] at P
    cases a <;> exact P
  | fail => rw [q] at P; exact P
  | rz c ρ' =>
    rw [q] at P
    intro σ' B' H' e L'
    dsimp only at P
    by_cases hml : c ∈ ks ∧ Nat.ble (i + 1) ρ'.length = true
    · rw [if_pos hml] at P
      have hm := hml.1
      have ea := ha c hm
      unfold ExM at ea
      rw [gC] at ea
      refine ⟨_, ea, fun hb' a _ oe pn z v => ?_, fun hb' => ?_⟩
      · have hm' : c ∈ k.takes := of_decide_eq_true hb'
        rw [if_pos hm'] at P
        have hl := hld_of (X := X) (a := a) (pn := pn) (hxe c hm) z v
        have hlen : i < σ'.length := by
          have := L'.len
          have := Nat.le_of_ble_eq_true hml.2
          omega
        refine hsu c hm a oe pn hl F (ρ'.set i .un) (σ'.set i (some (.ref a))) B' H' _ (List.getElem?_set_self hlen) (L'.store rfl fun d' z => nomatch z) ?_
        cases q3 : k.g c (ρ'.set i .un) with
        | ok fl ρ3 =>
          rw [q3] at P
          cases fl with
          | nx => exact fun σ3 B3 H3 e3 _ L3 => P (σ3.set i none) B3 H3 (e.trans e3) (L3.void i)
          | bk => exact fun σ3 B3 H3 e3 L3 => P (σ3.set i none) B3 H3 (e.trans e3) (L3.void i)
          | ct => exact fun σ3 B3 H3 e3 L3 => P (σ3.set i none) B3 H3 (e.trans e3) (L3.void i)
          | rt d o => exact fun v σ3 B3 H3 e3 L3 w3 => P v σ3 B3 H3 (e.trans e3) L3 w3
        | rz c2 ρ3 => rw [q3] at P; exact fun σ3 B3 H3 e3 L3 => P σ3 B3 H3 (e.trans e3) L3
        | fail => rw [q3] at P; exact P
      · have hm' : c ∉ k.takes := of_decide_eq_false hb'
        rw [if_neg hm'] at P
        exact P σ' B' H' e L'
    · rw [if_neg hml] at P; exact P.elim
end
theorem sqTryAs {β : Type} {J : Rs Fl → β → Prop} {ks : List Str} {i : Nat} {nm : Str} {tk : List Str} {g : Str → M Fl} {f k : M Fl} {ρ ρ1 : Env} {c : Str} {x : β} (h : f ρ = .rz c ρ1) (hm : c ∈ ks) (hl : Nat.ble (i + 1) ρ1.length = true) (ht : c ∈ tk) (h2 : J (mSeq (fun ρ => unI i (g c ρ)) k (ρ1.set i .un)) x) : J (mSeq (mTryAs ks i ⟨nm, tk, g⟩ f) k ρ) x := by
  have e : mSeq (mTryAs ks i ⟨nm, tk, g⟩ f) k ρ = mSeq (fun ρ => unI i (g c ρ)) k (ρ1.set i .un) := by
    unfold mSeq M.bind mTryAs
    rw [h]; dsimp only; rw [if_pos ⟨hm, hl⟩, if_pos ht]
  rw [e]; exact h2
theorem sqUnI {β : Type} {J : Rs Fl → β → Prop} {i : Nat} {g k : M Fl} {ρ ρ' : Env} {d : D} {o : Ob} {x : β} (h : g ρ = .ok (.rt d o) ρ') (h2 : J (.ok (.rt d o) ρ') x) : J (mSeq (fun ρ => unI i (g ρ)) k ρ) x := by
  have e : mSeq (fun ρ => unI i (g ρ)) k ρ = .ok (.rt d o) ρ' := by
    unfold mSeq M.bind
    dsimp only
    rw [h]; rfl
  rw [e]; exact h2
end Dt
namespace Dt
open PySem PySem.Spec PyProof.Rows L2
section
variable {X : Cx} {W : WX} {i : Nat} {a : Addr} {pos : Pos}
end
theorem xec_nil {K : PySem.W.Frag} {mg : Str → Option Value} : ∀ c ∈ ([] : List Str), XeC K mg c := fun c h => absurd h List.not_mem_nil
theorem xec_cons {K : PySem.W.Frag} {mg : Str → Option Value} {c : Str} {ks : List Str} (h : XeC K mg c) (r : ∀ c ∈ ks, XeC K mg c) : ∀ x ∈ c :: ks, XeC K mg x := fun x hx => by
  rcases List.mem_cons.mp hx with rfl | hx
  · exact h
  · exact r x hx
section
variable {α β : Type} {ρ ρ1 ρ2 ρ' : Env} {c : Str}
def JZs (ρ1 : Env) (c : Str) (r : Rs Fl) (_ : Unit) : Prop := r = .rz c ρ1
theorem isE {tk : List Str} : mIsE c tk ρ = .ok (.bl (decide (c ∈ tk))) ρ := rfl
theorem bdc {τ : Type} {J : Rs Fl → β → Prop} {v : τ} {S : τ → Prop} {b : τ → β} {r : Rs Fl} (hs : bd v S) (hk : ∀ c, S c → J r (b c)) : J r (bd v b) := hk v hs
theorem rtE {f : M D} {d : D} (h : f ρ = .ok d ρ1) : mRet (mOf f) ρ = .ok (.rt d .ff) ρ1 := by unfold mRet mOf M.bind; rw [h]; rfl
end
end Dt
namespace Dt
open PySem PySem.Spec PyProof.Rows L2
section
variable {α : Type} {F : α → D} {ρ ρ1 ρ2 ρ3 ρ4 ρ5 : Env} {i : Nat}
end
section
variable {n : Nat} {α β γ δ : Type} {F : α → D} {G : β → D} {H : γ → D} {K : δ → D}
end
set_option synthInstance.maxSize 1000 in
set_option synthInstance.maxHeartbeats 400000 in
instance decMea : DecidableEq (List (Rat × Rat × Option Rat) × List (Rat × Rat) × Rat × Rat × Rat × Rat) := inferInstance
end Dt
namespace Dt
open PySem PySem.Spec PyProof.Rows L2
noncomputable def mLcW (own : List Nat) (m : Mk) (i : Nat) (e : M (D × Ob)) (n : Mk) : List D → List D → M (List D)
  | [], acc => M.pure acc
  | d :: r, acc => fun ρ => M.bind (mNoR e) (fun y ρ2 => if acc.length < 10000 ∧ obMk y.2 y.1 = some n then mLcW own m i e n r (acc ++ [y.1]) (wipeE ρ2 own) else .fail) (ρ.set i (slotM m d))
noncomputable def mLcV (own : List Nat) (m n : Mk) (i : Nat) (f : M (D × Ob)) (e : M (D × Ob)) : M (D × Ob) := M.bind f fun p ρ => match p with
  | (.lst ds, o) => if obMk o (.lst ds) = some (.l m) then match mLcW own m i e n ds [] (wipeE ρ own) with
    | .ok acc ρ2 => .ok (.lst acc, .dp (.l n)) (wipeE ρ2 own)
    | _ => .fail
    else .fail
  | _ => .fail
section
variable {K : PySem.W.Frag} {F : Fr} {ρ ρ' : Env} {σ σ' : St} {B H B' H' : Hp}
theorem Lv.moreA {A : Addr → Prop} (L : Lv K F ρ σ B H) (h : ∀ a, F.A a → A a) : Lv K ⟨F.B0, F.H0, A, F.P⟩ ρ σ B H :=
  ⟨L.ex, fun a o e n => L.kept a o e fun z => n (h a z), L.there, L.exB, fun a e n k => L.hid a e n fun z => k (h a z), L.fz, fun i s e w => by
    obtain ⟨v, S, e1, f, g⟩ := L.own0 i s e w
    exact ⟨v, S, e1, f, fun a m => (g a m).imp (h a) id⟩, L.io, L.ne0, L.len⟩
theorem Lv.backX {A : Addr → Prop} (L : Lv K F ρ σ B H) (M : Lv K ⟨B, H, A, F.P⟩ ρ' σ' B' H') (own : ∀ a, A a → F.A a ∨ F.H0 a = none) : Lv K F ρ' σ' B' H' := by
  refine ⟨M.ex, fun a o e n => ?_, fun a e => M.there a (L.there a e), L.exB.trans M.exB, fun a e n k => ?_, M.fz, fun i s e w => ?_, M.io, M.ne0, M.len⟩
  · refine M.kept a o (L.kept a o e n) fun z => ?_
    rcases own a z with q | q
    · exact n q
    · rw [q] at e; cases e
  · have h1 := L.hid a e n k
    refine M.hid a h1 (n.to fun o q => L.kept a o q k) fun z => ?_
    · rcases own a z with q | q
      · exact k q
      · exact n.ne q
  · obtain ⟨v, S, e1, f, g⟩ := M.own0 i s e w
    refine ⟨v, S, e1, f, fun a m => ?_⟩
    rcases g a m with g | g
    · exact own a g
    · by_cases k : F.A a
      · exact .inl k
      · refine .inr ?_
        cases q : F.H0 a with
        | none => rfl
        | some u => have z := L.kept a u q k; rw [show H a = none from g] at z; cases z
theorem VO.slotM {v : V} {d : D} {m : Mk} (w : VO K F ρ σ B H v d (.dp m)) : ∃ o, VO K F ρ σ B H v d o ∧ Slot.of (d, o) = some (Dt.slotM m d) := by
  cases m with
  | z =>
    obtain ⟨S, t, _⟩ := w
    exact ⟨.ff, by unfold Tr at t; exact t.1, rfl⟩
  | t ms => exact ⟨_, w, rfl⟩
  | l m =>
    cases m with
    | z => exact ⟨.tt, w.flat, rfl⟩
    | l m => exact ⟨_, w, rfl⟩
    | t m => exact ⟨_, w, rfl⟩
theorem its_cons {R : V → D → List Addr → Prop} {vs : List V} {d : D} {ds : List D} {S : List Addr} (h : Its R vs (d :: ds) S) : ∃ v vs' S1 S2, vs = v :: vs' ∧ S = S1 ++ S2 ∧ R v d S1 ∧ Its R vs' ds S2 := by
  cases h with
  | cons a t => exact ⟨_, _, _, _, rfl, rfl, a, t⟩
end
section
variable {X : Cx} {W : WX} {elt iter : Expr} {scope : Scope} {own : List (Str × Nat)} {pos px : Pos} {f : M (D × Ob)}
theorem lcV_at {m n : Mk} {i : Nat} {x : Str} {e : M (D × Ob)}
    (hg : ∀ (s : Shared) (H : Hp) (C : Addr) (cl : List (Str × Addr)) (fp : List Addr), PG (X.blk s H scope (compEnvC scope cl C X.env) fp) (.Name x px) (gName i))
    (he : ∀ (s : Shared) (H : Hp) (C : Addr) (cl : List (Str × Addr)) (fp : List Addr), EO (X.blk s H scope (compEnvC scope cl C X.env) fp) W0 elt e)
    (his : i ∈ own.map (·.2)) {F : Fr} {ρ : Env} {σ : St} {B H : Hp} {Q : VK} (hi : EO X W iter f) (L : Lv X.K F ρ σ B H)
    (P : Post X W F σ B (mLcV (own.map (·.2)) m n i f e ρ) (fun p ρ' B' H' => ∀ v, VO X.K F ρ' σ B' H' v p.1 p.2 → Q v H')) : tLc (wi X (.Name x px) iter) (gB X scope (.Name x px)) (tsB X scope []) (eB X scope elt) (own.map (·.2)) σ H Q := by
  generalize hvs : own.map (·.2) = vs at *
  refine PI.wi (pi_list pe_we) ?_
  refine hi F ρ σ B H _ L ((Post.bind P).imp fun p ρ1 B1 H1 e1 L1 P1 v0 w0 => ?_)
  obtain ⟨dd, o⟩ := p
  cases dd with
  | lst ds =>
    dsimp only at P1
    split at P1
    case isFalse => exact P1.elim
    rename_i hob
    obtain ⟨S0, t0, nd0, g0⟩ := VO.tr w0 hob
    unfold Tr at t0
    obtain ⟨l, ws, ds', T0, rfl, eds, bl, hl0, its0, rfl⟩ := t0
    injection eds with eds; subst eds
    refine ⟨l, rfl, ⟨ws, .inl (.inl hl0)⟩, fun Dl hD => ?_⟩
    have Lw : Lv X.K F (wipeE ρ1 vs) (L2.wipe σ vs) B1 H1 := L1.wipe vs
    have g0w : ∀ a ∈ l :: T0, ¬ OwS X.K B1 H1 (wipeE ρ1 vs) (L2.wipe σ vs) a := fun a ha ⟨j, s, v, T, e1, q1, f1, m1⟩ => by
      rcases wipeE_get e1 with z | ⟨hj, e1⟩
      · rw [z] at f1; exact f1.elim
      · rw [wipe_out hj] at q1
        exact (g0 a ha).2 ⟨j, s, v, T, e1, q1, f1, m1⟩
    have hid0 : ∀ a ∈ l :: T0, B1 a = none ∧ Ct H1 a := fun a ha => by
      rcases List.mem_cons.mp ha with rfl | ha
      · exact ⟨bl, .of hl0 fun _ z => nomatch z⟩
      · exact its0.all (fun v d T r => Tr.hid r) a ha
    let PC : Rs (List D) → Prop := fun r => match r with
      | .ok acc ρ2 => ∀ B' H', Ex B1 B' → Lv X.K F (wipeE ρ2 vs) σ B' H' → ∀ v, VO X.K F (wipeE ρ2 vs) σ B' H' v (.lst acc) (.dp (.l n)) → Q v H'
      | _ => False
    have PC0 : PC (mLcW vs m i e n ds [] (wipeE ρ1 vs)) := by
      cases q : mLcW vs m i e n ds [] (wipeE ρ1 vs) with
      | ok acc ρ2 => rw [q] at P1; exact fun B' H' e' L' v w => P1 B' H' e' L' v w
      | rz c ρ2 => rw [q] at P1; exact P1.elim
      | fail => rw [q] at P1; exact P1.elim
    have nD0 : ¬ OwS X.K B1 H1 (wipeE ρ1 vs) (L2.wipe σ vs) Dl := fun z => (Lw.hidOw z).2.ne hD
    have dl0 : Dl ∉ l :: T0 := fun z => (hid0 Dl z).2.ne hD
    let A : Addr → Prop := fun a => OwS X.K B1 H1 (wipeE ρ1 vs) (L2.wipe σ vs) a ∨ a ∈ l :: T0
    let G : Fr := ⟨B1, H1, A, F.P⟩
    have GF : ∀ a, A a → F.A a ∨ F.H0 a = none := fun a h => h.elim (fun z => Lw.ofOw z) (fun z => (g0 a z).1)
    let IN : List V → List D → Hp → Prop := fun us r H' => ∃ ρ' B' acc xs S T, Lv X.K G ρ' (L2.wipe σ vs) B' H' ∧ H' Dl = some (.lst xs) ∧ B' Dl = none ∧ H' l = some (.lst ws) ∧ B' l = none ∧ Its (Tr X.K B' H' n) xs acc S ∧ Its (Tr X.K B' H' m) us r T ∧ (Dl :: l :: (S ++ T)).Nodup ∧
      (∀ a ∈ Dl :: l :: (S ++ T), (G.A a ∨ G.H0 a = none) ∧ ¬ OwS X.K B' H' ρ' (L2.wipe σ vs) a) ∧ PC (mLcW vs m i e n r acc ρ')
    have IN0 : IN ws ds (upd H1 Dl (.lst [])) := by
      have kp : ∀ a, a ≠ Dl → ∀ o, H1 a = some o → upd H1 Dl (.lst []) a = some o := fun a h o q => by rw [upd_ne h]; exact q
      refine ⟨wipeE ρ1 vs, B1, [], [], [], T0, (Lw.nest.moreA (A := A) fun a h => .inl h).allocO hD, upd_same, L1.ex.nn hD, kp _ (fun z => dl0 (z ▸ List.mem_cons_self)) _ hl0, bl, .nil, its0.imp fun v d T tr sub => tr.keep (Ex.refl _) (fun a ha => (tr.hid a ha).1) (fun a ha => kp a fun z => dl0 (z ▸ List.mem_cons_of_mem _ (sub a ha))), ?_, fun a ha => ?_, PC0⟩
      · rw [List.nil_append]; exact List.nodup_cons.mpr ⟨dl0, nd0⟩
      · rcases List.mem_cons.mp ha with rfl | ha
        · exact ⟨.inr hD, fun z => nD0 (z.chg Lw nD0)⟩
        · exact ⟨.inl (.inr ha), fun z => g0w a ha (z.chg Lw nD0)⟩
    refine ⟨fun k u H' => u = ds.length - k ∧ k ≤ ds.length ∧ IN (ws.drop k) (ds.drop k) H', ⟨ds.length, by simp, Nat.zero_le _, IN0⟩, ?_⟩
    rintro k u H2 ⟨rfl, hi2, ρ2, B2, acc, xs, S, T, M2, hl, hb, hl2, hb2, fs, rs, nd, ga, P2⟩
    have lw : ws.length = ds.length := its0.len
    by_cases hlt : k < ds.length
    · refine .inr ⟨⟨ws, ws[k]'(by omega), .inl (.inl hl2), List.getElem?_eq_getElem _⟩, IN (ws.drop (k + 1)) (ds.drop (k + 1)), fun H' q => ⟨ds.length - (k + 1), by omega, rfl, hlt, q⟩, fun y H3 hy => ?_⟩
      obtain ⟨rfl, hy⟩ := hy
      have hy := hy ws (.inl (.inl hl2))
      rw [List.drop_eq_getElem_cons hlt] at P2 rs
      have hkw : k < ws.length := by omega
      rw [List.drop_eq_getElem_cons hkw] at rs
      rw [List.getElem?_eq_getElem hkw] at hy
      injection hy with hy; subst hy
      generalize ws[k] = yv at *
      generalize ds[k] = d at *
      generalize ds.drop (k + 1) = r at *
      generalize ws.drop (k + 1) = us at *
      obtain ⟨v, us', S1, T', e1, rfl, t1, rs'⟩ := its_cons rs
      injection e1 with e1 e2; subst e1; subst e2
      -- what is apart
      have nd1 := List.nodup_cons.mp nd
      have nd2 := List.nodup_cons.mp nd1.2
      obtain ⟨nS, nT, sT⟩ := List.nodup_append.mp nd2.2
      obtain ⟨nS1, nT', sT'⟩ := List.nodup_append.mp nT
      have s1m : ∀ a ∈ S1, a ∈ Dl :: l :: (S ++ (S1 ++ T')) := fun a ha => by simp [ha]
      have s1o : ∀ a ∈ S1, a ∉ Dl :: l :: (S ++ T') := fun a ha h => by
        rcases List.mem_cons.mp h with rfl | h
        · exact nd1.1 (by simp [ha])
        rcases List.mem_cons.mp h with rfl | h
        · exact nd2.1 (by simp [ha])
        rcases List.mem_append.mp h with h | h
        · exact sT a h a (by simp [ha]) rfl
        · exact sT' a ha a h rfl
      have ndR : (Dl :: l :: (S ++ T')).Nodup := by
        refine List.nodup_cons.mpr ⟨fun h => nd1.1 ?_, List.nodup_cons.mpr ⟨fun h => nd2.1 ?_, List.nodup_append.mpr ⟨nS, nT', fun a ha b hb => sT a ha b (by simp [hb])⟩⟩⟩
        · rcases List.mem_cons.mp h with h | h
          · simp [h]
          · rcases List.mem_append.mp h with h | h <;> simp [h]
        · rcases List.mem_append.mp h with h | h <;> simp [h]
      have subR : ∀ a ∈ Dl :: l :: (S ++ T'), a ∈ Dl :: l :: (S ++ (S1 ++ T')) := fun a ha => by
        rcases List.mem_cons.mp ha with h | h
        · simp [h]
        rcases List.mem_cons.mp h with h | h
        · simp [h]
        rcases List.mem_append.mp h with h | h <;> simp [h]
      let A2 : Addr → Prop := fun a => OwS X.K B2 H3 ρ2 (L2.wipe σ vs) a ∨ a ∈ S1
      have noA2 : ∀ a ∈ Dl :: l :: (S ++ T'), ¬ A2 a := fun a ha h => h.elim (ga a (subR a ha)).2 (fun z => s1o a z ha)
      have N2 : Lv X.K ⟨B2, H3, A2, F.P⟩ ρ2 (L2.wipe σ vs) B2 H3 := M2.nest.moreA (A := A2) fun a h => .inl h
      have vo : VO X.K ⟨B2, H3, A2, F.P⟩ ρ2 (L2.wipe σ vs) B2 H3 yv d (.dp m) := ⟨S1, t1, nS1, fun a ha => ⟨.inl (.inr ha), (ga a (s1m a ha)).2⟩⟩
      obtain ⟨o1, vo1, hsl⟩ := VO.slotM vo
      have N4 := N2.put (i := i) (p := (d, o1)) vo1 hsl
      have P3 : PC (M.bind (mNoR e) (fun y ρ2 => if acc.length < 10000 ∧ obMk y.2 y.1 = some n then mLcW vs m i e n r (acc ++ [y.1]) (wipeE ρ2 vs) else .fail) (ρ2.set i (slotM m d))) := by
        have P2' := P2
        unfold mLcW at P2'
        exact P2'
      have thr : ∀ a ∈ Dl :: l :: (S ++ T'), B2 a = none ∧ Ct H3 a := fun a ha => by
        rcases List.mem_cons.mp ha with rfl | ha
        · exact ⟨hb, .of hl fun _ z => nomatch z⟩
        rcases List.mem_cons.mp ha with rfl | ha
        · exact ⟨hb2, .of hl2 fun _ z => nomatch z⟩
        rcases List.mem_append.mp ha with ha | ha
        · exact fs.all (fun v d T r => Tr.hid r) a ha
        · exact rs'.all (fun v d T r => Tr.hid r) a ha
      have hw : L2.wipe ((L2.wipe σ vs).set i (some yv)) vs = L2.wipe σ vs := by
        rw [wipe_onl (is := [i]) (Onl.set _ i _) (by simpa using his)]
      generalize hσ4 : (L2.wipe σ vs).set i (some yv) = σ4 at *
      generalize ρ2.set i (slotM m d) = ρ5 at *
      intro s0 H0 C0 cl0 fp0
      refine PG.wg (hg s0 H0 C0 cl0 fp0) ?_
      show L2.wipe ((L2.wipe σ vs).set i (some yv)) vs = L2.wipe σ vs ∧ _
      rw [hσ4]
      refine ⟨hw, fun s1 H01 C1 cl1 fp1 => PTs.wts pts_nil ?_⟩
      unfold tYes
      dsimp only
      rw [if_pos rfl]
      have back : ∀ {ρ6 : Env} {B6 H6 : Hp}, Lv X.K ⟨B2, H3, A2, F.P⟩ ρ6 σ4 B6 H6 → Lv X.K G (wipeE ρ6 vs) (L2.wipe σ vs) B6 H6 ∧ (∀ a ∈ Dl :: l :: (S ++ T'), B6 a = none ∧ (∀ o, H3 a = some o → H6 a = some o) ∧ ¬ OwS X.K B6 H6 (wipeE ρ6 vs) (L2.wipe σ vs) a) ∧ Ex B2 B6 := by
        intro ρ6 B6 H6 N6
        have M5 : Lv X.K G ρ6 σ4 B6 H6 := M2.backX N6 fun a h => h.elim (fun z => M2.ofOw z) (fun z => (ga a (s1m a z)).1)
        have M6 := M5.wipe vs
        rw [hw] at M6
        refine ⟨M6, fun a ha => ⟨N6.hid a (thr a ha).1 (thr a ha).2 (noA2 a ha), fun o q => N6.kept a o q (noA2 a ha), fun ⟨j, s, v, T, e1, q1, f1, m1⟩ => ?_⟩, N6.exB⟩
        rcases wipeE_get e1 with z | ⟨hj, e1⟩
        · rw [z] at f1; exact f1.elim
        · rw [← hw, wipe_out hj] at q1
          rcases N6.ofOw ⟨j, s, v, T, e1, q1, f1, m1⟩ with z | z
          · exact noA2 a ha z
          · exact (thr a ha).2.ne z
      have PE5 : Post X W0 ⟨B2, H3, A2, F.P⟩ σ4 B2 (e ρ5) (fun y ρ6 B6 H6 => (acc.length < 10000 ∧ obMk y.2 y.1 = some n) ∧ PC (mLcW vs m i e n r (acc ++ [y.1]) (wipeE ρ6 vs))) := by
        have P6 := P3
        unfold M.bind mNoR at P6
        cases q2 : e ρ5 with
        | ok y ρ6 =>
          rw [q2] at P6
          intro B' H' e' _
          have P7 : PC (if acc.length < 10000 ∧ obMk y.2 y.1 = some n then mLcW vs m i e n r (acc ++ [y.1]) (wipeE ρ6 vs) else .fail) := P6
          split at P7
          · rename_i hh; exact ⟨hh, P7⟩
          · exact P7.elim
        | rz c ρ6 => rw [q2] at P6; exact P6.elim
        | fail => rw [q2] at P6; exact P6.elim
      intro s2 H02 C2 cl2 fp2
      refine he s2 H02 C2 cl2 fp2 _ ρ5 σ4 B2 H3 _ N4 (PE5.imp fun y ρ6 B6 H6 e6 N6 ⟨hz, P7⟩ v vo => ?_)
      obtain ⟨M6, kp, ex6⟩ := back N6
      obtain ⟨U, tr, ndU, gU⟩ := VO.tr vo hz.2
      have ap : ∀ a ∈ U, a ∉ Dl :: l :: (S ++ T') := fun a ha hs => by
        rcases (gU a ha).1 with z | z
        · exact noA2 a hs z
        · exact (thr a hs).2.ne z
      have nU : ∀ a ∈ U, ¬ OwS X.K B6 H6 (wipeE ρ6 vs) (L2.wipe σ vs) a := fun a ha ⟨j, s, u, V, e1, q1, f1, m1⟩ => by
        rcases wipeE_get e1 with z | ⟨hj, e1⟩
        · rw [z] at f1; exact f1.elim
        · rw [← hw, wipe_out hj] at q1
          exact (gU a ha).2 ⟨j, s, u, V, e1, q1, f1, m1⟩
      have mD : Dl ∈ Dl :: l :: (S ++ T') := List.mem_cons_self
      have ml : l ∈ Dl :: l :: (S ++ T') := by simp
      have nD := (kp Dl mD).2.2
      have h6 := (kp Dl mD).2.1 _ hl
      have M7 := M6.hidW0 (o := .lst (xs ++ [v])) (kp Dl mD).1 (ga Dl List.mem_cons_self).1 nD
      have kD : ∀ a, a ≠ Dl → ∀ o, H6 a = some o → upd H6 Dl (.lst (xs ++ [v])) a = some o := fun a n o q => by rw [upd_ne n]; exact q
      have ndR1 := List.nodup_cons.mp ndR
      have inS : ∀ a ∈ S, a ∈ Dl :: l :: (S ++ T') := fun a ha => by simp [ha]
      have inT : ∀ a ∈ T', a ∈ Dl :: l :: (S ++ T') := fun a ha => by simp [ha]
      have neD : ∀ a ∈ l :: (S ++ T'), a ≠ Dl := fun a ha z => ndR1.1 (z ▸ ha)
      have fs6 : Its (Tr X.K B6 (upd H6 Dl (.lst (xs ++ [v]))) n) xs acc S := fs.imp fun w d U' tr sub => tr.keep ex6 (fun a ha => (kp a (inS a (sub a ha))).1) (fun a ha o q => kD a (neD a (by simp [sub a ha])) o ((kp a (inS a (sub a ha))).2.1 o q))
      have rs6 : Its (Tr X.K B6 (upd H6 Dl (.lst (xs ++ [v]))) m) us r T' := rs'.imp fun w d U' tr sub => tr.keep ex6 (fun a ha => (kp a (inT a (sub a ha))).1) (fun a ha o q => kD a (neD a (by simp [sub a ha])) o ((kp a (inT a (sub a ha))).2.1 o q))
      refine ⟨xs, h6, lt_line (by rw [fs.len]; exact hz.1), wipeE ρ6 vs, B6, acc ++ [y.1], xs ++ [v], S ++ U, T', M7, upd_same, (kp Dl mD).1, kD l (neD l (by simp)) _ ((kp l ml).2.1 _ hl2), (kp l ml).1,
        Its.app fs6 (tr.keep (Ex.refl _) (fun a ha => (tr.hid a ha).1) (fun a ha => kD a fun z => ap a ha (by rw [z]; simp))), rs6, ?_, fun a ha => ?_, P7⟩
      · refine List.nodup_cons.mpr ⟨fun h => ?_, List.nodup_cons.mpr ⟨fun h => ?_, List.nodup_append.mpr ⟨List.nodup_append.mpr ⟨nS, ndU, fun a ha b hb z => ap b hb (z ▸ inS a ha)⟩, nT', fun a ha b hb z => ?_⟩⟩⟩
        · rcases List.mem_cons.mp h with h | h
          · exact ndR1.1 (by rw [h]; simp)
          rcases List.mem_append.mp h with h | h
          · rcases List.mem_append.mp h with h | h
            · exact ndR1.1 (by simp [h])
            · exact ap _ h mD
          · exact ndR1.1 (by simp [h])
        · rcases List.mem_append.mp h with h | h
          · rcases List.mem_append.mp h with h | h
            · exact (List.nodup_cons.mp ndR1.2).1 (by simp [h])
            · exact ap _ h ml
          · exact (List.nodup_cons.mp ndR1.2).1 (by simp [h])
        · rcases List.mem_append.mp ha with ha | ha
          · exact sT a ha b (by simp [hb]) z
          · exact ap a ha (z ▸ inT b hb)
      · have old : ∀ a ∈ Dl :: l :: (S ++ T'), (G.A a ∨ G.H0 a = none) ∧ ¬ OwS X.K B6 (upd H6 Dl (.lst (xs ++ [v]))) (wipeE ρ6 vs) (L2.wipe σ vs) a := fun a ha => ⟨(ga a (subR a ha)).1, fun z => (kp a ha).2.2 (z.chg M6 nD)⟩
        rcases List.mem_cons.mp ha with h | ha
        · exact old a (by rw [h]; simp)
        rcases List.mem_cons.mp ha with h | ha
        · exact old a (by rw [h]; simp)
        rcases List.mem_append.mp ha with ha | ha
        · rcases List.mem_append.mp ha with ha | ha
          · exact old a (inS a ha)
          · refine ⟨?_, fun z => nU a ha (z.chg M6 nD)⟩
            rcases (gU a ha).1 with z | z
            · rcases z with z | z
              · exact M2.ofOw z
              · exact (ga a (s1m a z)).1
            · exact .inr (M2.free z)
        · exact old a (inT a ha)
    · have ei : k = ds.length := by omega
      subst ei
      rw [List.drop_length] at P2
      refine .inl ⟨⟨ws, .inl (.inl hl2), by omega⟩, ?_⟩
      have M3 := Lw.backX M2 GF
      have M4 := M3.unwipe
      refine P2 B2 H2 M2.exB M4 _ ⟨Dl :: S, ?_, ?_, fun a ha => ⟨?_, fun ⟨j, s, v, T9, e1, q1, f1, m1⟩ => ?_⟩⟩
      · unfold Tr; exact ⟨Dl, xs, acc, S, rfl, rfl, hb, hl, fs, rfl⟩
      · have n1 := List.nodup_cons.mp nd
        have n2 := List.nodup_cons.mp n1.2
        exact List.nodup_cons.mpr ⟨fun h => n1.1 (by simp [h]), (List.nodup_append.mp n2.2).1⟩
      · have ha' : a ∈ Dl :: l :: (S ++ T) := by
          rcases List.mem_cons.mp ha with h | h <;> simp [h]
        rcases (ga a ha').1 with z | z
        · exact GF a z
        · exact .inr (Lw.free z)
      · have ha' : a ∈ Dl :: l :: (S ++ T) := by
          rcases List.mem_cons.mp ha with h | h <;> simp [h]
        rcases wipeE_get e1 with z | ⟨hj, e1⟩
        · rw [z] at f1; exact f1.elim
        · rw [← wipe_out hj] at q1
          exact (ga a ha').2 ⟨j, s, v, T9, e1, q1, f1, m1⟩
  | _ => exact P1.elim
theorem eo_lcV {m n : Mk} {i : Nat} {x : Str} {e : M (D × Ob)} (hc : X.calm = true) (hN : X.N.Nodup) (hi : EO X W iter f) (ok : BlkOk X.N X.env.scope scope own)
    (hg : ∀ (s : Shared) (H : Hp) (C : Addr) (cl : List (Str × Addr)) (fp : List Addr), PG (X.blk s H scope (compEnvC scope cl C X.env) fp) (.Name x px) (gName i))
    (he : ∀ (s : Shared) (H : Hp) (C : Addr) (cl : List (Str × Addr)) (fp : List Addr), EO (X.blk s H scope (compEnvC scope cl C X.env) fp) W0 elt e)
    (his : i ∈ own.map (·.2) := by decide) (hs : ∀ y, foldedSetIterable iter X.env y = pure y := by intro _; rfl) : EO X W (.ListComp elt [⟨.Name x px, iter, [], 0⟩] scope pos) (mLcV (own.map (·.2)) m n i f e) := by
  intro F ρ σ B H Q L P
  exact PE.we (pe_lc (g := gB X scope (.Name x px)) (tt := tsB X scope []) (te := eB X scope elt) hc hN pi_wi ok (fun s H0 C cl fp => ⟨fun pins s' σ H v u Q I r h => Wg.run (h s H0 C cl fp) pins s' u I r⟩) (fun s H0 C cl fp => ⟨fun pins s' σ H Q I h => Wts.run (h s H0 C cl fp) pins s' I⟩) (fun s H0 C cl fp => ⟨fun pins s' σ H Q I h => We.run (h s H0 C cl fp) pins s' I⟩) hs) (lcV_at hg he his hi L P)
end
section
variable {X : Cx} {W : WX} {e : Expr}
end
section
variable {ρ ρ0 ρ1 ρ9 : Env} {α β : Type} {F : α → D} {G : β → D} {own : List Nat} {m n : Mk} {i : Nat} {e : M (D × Ob)} {f : M (D × Ob)} {o : Ob}
theorem lcW_pure {φ : α → β} (hm : ∀ y, obMk o (G y) = some n) : ∀ (xs : List α) (acc : List D), (∀ x ∈ xs, ∃ ρz, e (ρ1.set i (slotM m (F x))) = .ok (G (φ x), o) ρz ∧ wipeE ρz own = ρ1) → acc.length + xs.length ≤ 10000 →
    mLcW own m i e n (xs.map F) acc ρ1 = .ok (acc ++ xs.map fun x => G (φ x)) ρ1
  | [], acc, _, _ => by simp only [List.map_nil, List.append_nil]; rfl
  | x :: r, acc, h, hl => by
    rw [List.length_cons] at hl
    obtain ⟨ρz, h3, h4⟩ := h x List.mem_cons_self
    rw [List.map_cons]
    unfold mLcW M.bind mNoR
    rw [h3]; dsimp only
    rw [if_pos ⟨by omega, hm _⟩, h4, lcW_pure hm r (acc ++ [G (φ x)]) (fun y hy => h y (List.mem_cons_of_mem _ hy)) (by simp; omega)]
    simp [List.append_assoc]
theorem lcV {φ : α → β} {xs : List α} {o1 : Ob} (hm : ∀ y, obMk o (G y) = some n) (hf : f ρ = .ok (eL F xs, o1) ρ0) (hob : obMk o1 (eL F xs) = some (.l m)) (hρ : wipeE ρ0 own = ρ1) (hb : ∀ x ∈ xs, ∃ ρz, e (ρ1.set i (slotM m (F x))) = .ok (G (φ x), o) ρz ∧ wipeE ρz own = ρ1) (hl : xs.length ≤ 10000) (h9 : wipeE ρ1 own = ρ9) :
    mLcV own m n i f e ρ = .ok (eL G (xs.map φ), .dp (.l n)) ρ9 := by
  unfold mLcV M.bind
  rw [hf]
  show (if obMk o1 (.lst (xs.map F)) = some (.l m) then _ else _) = _
  rw [if_pos (show obMk o1 (.lst (xs.map F)) = some (.l m) from hob), hρ, lcW_pure hm xs [] hb (by simpa using hl)]
  show Rs.ok _ (wipeE ρ1 own) = _
  rw [h9]
  unfold eL
  rw [List.map_map]; rfl
end
end Dt
namespace Dt
open PySem PySem.Spec PyProof.Rows L2
section
variable {α β : Type} {F : α → D} {G : β → D} {ρ ρ1 ρ2 ρ3 ρ4 ρ5 ρ6 ρ7 : Env} {i : Nat} {fk1 fk2 fe : M D} {z1 : Int}
abbrev mkLT : Mk := .l (.t (.cons (.l .z) (.cons .z .nil)))
theorem sDeepLT [Inhabited α] [Inhabited β] {xs : List (List α × β)} {v : α} (h : ρ[i]? = some (.dp mkLT (eL (eT2 (eL F) G) xs))) (hk1 : fk1 (ρ.set i .un) = .ok (.int z1) ρ1) (hr1 : ρ1.set i (.dp mkLT (eL (eT2 (eL F) G) xs)) = ρ2) (h2 : ρ2[i]? = some (.dp mkLT (eL (eT2 (eL F) G) xs)))
    (hk2 : fk2 (ρ2.set i .un) = .ok (.int 0) ρ3) (hr2 : ρ3.set i (.dp mkLT (eL (eT2 (eL F) G) xs)) = ρ4) (h4 : ρ4[i]? = some (.dp mkLT (eL (eT2 (eL F) G) xs)))
    (he : fe (ρ4.set i .un) = .ok (F v) ρ5) (hr3 : ρ5.set i (.dp mkLT (eL (eT2 (eL F) G) xs)) = ρ6) (h6 : ρ6[i]? = some (.dp mkLT (eL (eT2 (eL F) G) xs)))
    (hb : InB xs.length z1) (hl : (ix xs z1).1.length < 10000) (hr : ρ6.set i (.dp mkLT (eL (eT2 (eL F) G) (setI xs z1 ((ix xs z1).1 ++ [v], (ix xs z1).2)))) = ρ7) :
    mDeepApp i (pIx i (pIx i (pRoot i) fk1) fk2) fe ρ = .ok .nx ρ7 := by
  have e1 := p_ix1 (G := eT2 (eL F) G) h hk1 hr1 h2 hb
  have g1 : subM mkLT (eL (eT2 (eL F) G) xs) [ixN' xs.length z1] = some (.t (.cons (.l .z) (.cons .z .nil)), eT2 (eL F) G (ix xs z1)) := by
    unfold eL
    rw [subM_l]
    have := map_at (G := eT2 (eL F) G) hb
    unfold eL at this
    rw [this]; exact subM_nil
  have g2 : subM mkLT (eL (eT2 (eL F) G) xs) [ixN' xs.length z1, 0] = some (.l .z, eL F (ix xs z1).1) := by
    unfold eL
    rw [subM_l]
    have := map_at (G := eT2 (eL F) G) hb
    unfold eL at this
    rw [this]; exact subM_nil
  have e2 : pIx i (pIx i (pRoot i) fk1) fk2 ρ = .ok [ixN' xs.length z1, 0] ρ4 := by
    unfold pIx M.bind
    unfold pIx M.bind at e1
    rw [e1]; dsimp only
    rw [hid_of h2 hk2 hr2]; dsimp only
    rw [h4]; dsimp only
    unfold pItem
    dsimp only
    rw [g1]
    show (match (if (subM mkLT (eL (eT2 (eL F) G) xs) [ixN' xs.length z1, 0]).isSome = true then some [ixN' xs.length z1, 0] else none) with | some p' => Rs.ok p' ρ4 | none => Rs.fail) = _
    rw [g2]; rfl
  have e3 : pChk i [ixN' xs.length z1, 0] ρ4 = .ok () ρ4 := by
    unfold pChk; rw [h4]; dsimp only; rw [g2]; rfl
  unfold mDeepApp M.bind
  rw [e2]; dsimp only
  rw [e3]; dsimp only
  rw [hid_of h4 he hr3]; dsimp only
  unfold deepSet
  rw [h6]; dsimp only
  rw [g2]
  have gl : eL F (ix xs z1).1 = .lst ((ix xs z1).1.map F) := rfl
  rw [gl]
  dsimp only
  rw [if_pos (by rw [List.length_map]; exact hl)]
  dsimp only
  rw [← hr]
  have hs : setM (eL (eT2 (eL F) G) xs) [ixN' xs.length z1, 0] (.lst ((ix xs z1).1.map F ++ [F v])) = eL (eT2 (eL F) G) (setI xs z1 ((ix xs z1).1 ++ [v], (ix xs z1).2)) := by
    have m := map_at (G := eT2 (eL F) G) hb
    unfold eL at m ⊢
    show D.lst ((xs.map _).set (ixN' xs.length z1) (setM ((xs.map _).getD (ixN' xs.length z1) .non) [0] _)) = _
    rw [List.getD_eq_getElem?_getD, m]
    unfold setI
    rw [List.map_set]
    show D.lst (List.set _ _ (D.tup _)) = D.lst (List.set _ _ (D.tup _))
    congr 2
    show D.tup [D.lst ((ix xs z1).1.map F ++ [F v]), G (ix xs z1).2] = D.tup [D.lst (((ix xs z1).1 ++ [v]).map F), G (ix xs z1).2]
    rw [List.map_append]; rfl
  rw [hs]
end
end Dt
namespace K11
open PySem PySem.Spec PyProof.Rows L2 Dt
noncomputable def fb_crowd_stands__o : M Fl :=
  mSeq (mSet 1 (mCallN 1 none Look.fn_crowd_of (xV (mVar 0) xNil)))
    (mSeq (mFrz 1)
    (mSeq (mSet 2 (mLcD [4] (.l .z) (mRange1 (mCons (mBin dAdd (mCall dMaxL (mCons (mVar 1) mNil)) (M.pure (.int 1))) mNil)) (gN 4) (M.pure true) (mLst mNil)))
    (mSeq (mFor (mEnum (mCons (mVar 1) mNil)) (gT 2 (gsC (gN 3) (gsC (gN 4) gsN))) (mSeq (mDeepApp 2 (pIx 2 (pRoot 2) (mVar 4)) (mVar 3))
    (mSeq (mKill [3, 4]) mNx)))
    (mRet (mMove 2)))))
noncomputable def fn_crowd_stands__o : List D → Rf := runF none 5 fb_crowd_stands__o
noncomputable def t_crowd_stands__o (v_net : Net) : (List (List Int)) :=
  bd (Look.t_crowd_of v_net) (fun (v_numbers_1 : (List Int)) => bd ((rangeI 0 (((maxL v_numbers_1) + (1 : Int)))).map (fun (xv2 : Int) => ([] : List Int))) (fun (v_found_5 : (List (List Int))) => bd ((enumI v_numbers_1).foldl (fun (z6 : ((List (List Int)))) (xv7 : (Int × Int)) => bd (setI z6 xv7.2 (ix z6 xv7.2 ++ [xv7.1])) (fun (v_found_8 : (List (List Int))) => v_found_8)) v_found_5) (fun (z9 : ((List (List Int)))) => z9)))
def s_crowd_stands__o (v_net : Net) : Prop :=
  ((Look.s_crowd_of v_net) ∧ (bd (Look.t_crowd_of v_net) (fun (v_numbers_1 : (List Int)) => ((v_numbers_1 ≠ []) ∧ (-100000000 < (((maxL v_numbers_1) + (1 : Int))) ∧ (((maxL v_numbers_1) + (1 : Int))) < 100000000) ∧ (((rangeI 0 (((maxL v_numbers_1) + (1 : Int))))).length ≤ 10000) ∧ (bd ((rangeI 0 (((maxL v_numbers_1) + (1 : Int)))).map (fun (xv2 : Int) => ([] : List Int))) (fun (v_found_5 : (List (List Int))) => (sfl (fun (z6 : ((List (List Int)))) (xv7 : (Int × Int)) => bd (setI z6 xv7.2 (ix z6 xv7.2 ++ [xv7.1])) (fun (v_found_8 : (List (List Int))) => v_found_8)) (fun (z6 : ((List (List Int)))) (xv7 : (Int × Int)) => ((InB z6.length xv7.2) ∧ ((ix z6 xv7.2).length < 10000))) (enumI v_numbers_1) v_found_5)))))))
theorem e_crowd_stands__o {v_net : Net} (h : s_crowd_stands__o v_net) : fn_crowd_stands__o [eNet v_net] = .ok ((eL (eL D.int)) (t_crowd_stands__o v_net)) (.dp (.l (.l .z))) .non := by
  refine run0 (F := (eL (eL D.int))) (o := (.dp (.l (.l .z)))) (fb := fb_crowd_stands__o) (x := t_crowd_stands__o v_net) ?_
  show JR (eL (eL D.int)) (.dp (.l (.l .z))) (fb_crowd_stands__o [.fz (eNet v_net), .un, .un, .un, .un]) _
  delta fb_crowd_stands__o t_crowd_stands__o
  delta s_crowd_stands__o at h
  exact sqB (ctx := fun (v_numbers_1 : (List Int)) => [.fz (eNet v_net), .ow ((eL D.int) v_numbers_1), .un, .un, .un]) (sSetO (cN (x1 (vf 0 rfl) x0) rfl rfl (Look.e_crowd_of (v_net := v_net) h.1 :) rfl) rfl) h.2 (fun v_numbers_1 h => sq (sFrz (i := 1) rfl (show _ = [.fz (eNet v_net), zJ v_numbers_1, .un, .un, .un] from rfl)) (sqB (ctx := fun (v_found_5 : (List (List Int))) => [.fz (eNet v_net), zJ v_numbers_1, .dp (.l (.l .z)) ((eL (eL D.int)) v_found_5), .un, .un]) (sSetD (lcD (F := D.int) (G := (eL D.int)) (φ := fun (xv2 : Int) => ([] : List Int)) (ρ1 := [.fz (eNet v_net), zJ v_numbers_1, .un, .un, .un]) (fun _ => rfl) (i_r1 (a1 (b2 (c1 (a1 (vf 1 rfl) a0) (o_maxL h.1)) rfl rfl) a0) h.2.1) rfl (fun xv2 hx3 => ⟨_, rfl, rfl, _, mlst a0, rfl⟩) h.2.2.1 rfl) rfl) h.2.2.2 (fun v_found_5 h => sqB (ctx := fun (z9 : ((List (List Int)))) => [.fz (eNet v_net), zJ v_numbers_1, .dp (.l (.l .z)) ((eL (eL D.int)) z9), .un, .un]) (S := fun _ => True) (forN (F := (eT2 D.int D.int)) (ctx := fun (z6 : ((List (List Int)))) => [.fz (eNet v_net), zJ v_numbers_1, .dp (.l (.l .z)) ((eL (eL D.int)) z6), .un, .un]) (i_enum (F := D.int) (a1 (vf 1 rfl) a0)) h (fun z6 xv7 h => ⟨_, rfl, sqB (ctx := fun (v_found_8 : (List (List Int))) => [.fz (eNet v_net), zJ v_numbers_1, .dp (.l (.l .z)) ((eL (eL D.int)) v_found_8), zI xv7.1, zI xv7.2]) (S := fun _ => True) (sDeepApp (i := 2) (F := D.int) (xs := z6) (v := xv7.1) rfl (vf 4 rfl) rfl rfl (vf 3 rfl) rfl rfl h.1 h.2 rfl) trivial (fun v_found_8 _ => sq (sKill (show _ = [.fz (eNet v_net), zJ v_numbers_1, .dp (.l (.l .z)) ((eL (eL D.int)) v_found_8), .un, .un] from rfl)) rfl)⟩)) trivial (fun z9 _ => sRet (mv_dp (i := 2) rfl) (jr_mk rfl)))))
noncomputable def fb_crowds : M Fl :=
  mSeq (mDrop (mFz (mCallN 1 none Look.fn_ask_sound (xV (mVar 0) xNil))))
    (mSeq (mIf (mTest (mFz (mCallN 1 none Look.fn_is_open (xV (mVar 0) xNil)))) (M.raise "OtherNet") mNx)
    (mRet (mLc [1] (mIter (mFz (mCallN 1 none Look.fn_crowd_stands (xV (mVar 0) xNil)))) (gN 1) (M.pure true) (mTup (mCons (mVar 1) (mCons (mCall dSum (mCons (mFz (mLc [2] (mIter (mVar 1)) (gN 2) (M.pure true) (mFz (mCallN 2 none Look.fn_begin_count (xV (mVar 0) (xV (mVar 2) xNil)))))) mNil)) mNil))))))
noncomputable def fn_crowds : List D → Rf := runF none 3 fb_crowds
def r_crowds (v_net : Net) (c : Str) : Prop :=
  ((Look.s_ask_sound v_net) ∧ (((Look.s_is_open v_net) ∧ ((Look.t_is_open v_net) = true → c = "OtherNet") ∧ ((Look.t_is_open v_net) = false → False))))
theorem x_crowds {v_net : Net} {c : Str} (h : r_crowds v_net c) : fn_crowds [eNet v_net] = .rz c := by
  refine runZ (fb := fb_crowds) (x := cond (Look.t_is_open v_net) () ()) ?_
  show JZ c (fb_crowds [.fz (eNet v_net), .un, .un]) _
  delta fb_crowds
  delta r_crowds at h
  exact sq (ρ1 := [.fz (eNet v_net), .un, .un]) (sDrop (mfz (cN (x1 (vf 0 rfl) x0) rfl rfl (Look.e_ask_sound (v_net := v_net) h.1 :) rfl))) (bdh h.2 (fun h => sqIf (tst (mfz (cN (x1 (vf 0 rfl) x0) rfl rfl (Look.e_is_open (v_net := v_net) h.1 :) rfl))) (fun hc => bdh (h.2.1 hc) (fun h => ⟨_, (by first | exact rzR h | exact bz (rzR h) | exact bz (bz (rzR h)) | exact bz (bz (bz (rzR h))) | exact bz (bz (bz (bz (rzR h)))) | exact bz (bz (bz (bz (bz (rzR h))))) | exact bz (bz (bz (bz (bz (bz (rzR h)))))) | exact bz (bz (bz (bz (bz (bz (bz (rzR h))))))))⟩)) (fun hc => bdh (h.2.2 hc) (fun h => sq rfl h.elim))))
noncomputable def fb_crowds__o : M Fl :=
  mSeq (mDrop (mFz (mCallN 1 none Look.fn_ask_sound (xV (mVar 0) xNil))))
    (mSeq (mIf (mTest (mFz (mCallN 1 none Look.fn_is_open (xV (mVar 0) xNil)))) (M.raise "OtherNet") mNx)
    (mRet (mLcV [1] (.l .z) (.t (.cons (.l .z) (.cons .z .nil))) 1 (mCallN 1 none fn_crowd_stands__o (xV (mVar 0) xNil)) (mTupO (oS 1 (oF (mTh thV 1 (mCall dSum (mCons (mFz (mLc [2] (mIter (mVar 1)) (gN 2) (M.pure true) (mFz (mCallN 2 none Look.fn_begin_count (xV (mVar 0) (xV (mVar 2) xNil)))))) mNil))) oNil))))))
noncomputable def fn_crowds__o : List D → Rf := runF none 3 fb_crowds__o
noncomputable def t_crowds__o (v_net : Net) : (List ((List Int) × Int)) :=
  cond (Look.t_is_open v_net) default ((t_crowd_stands__o v_net).map (fun (xv1 : (List Int)) => (xv1, ((xv1.map (fun (xv2 : Int) => (Look.t_begin_count v_net xv2)))).sum)))
def s_crowds__o (v_net : Net) : Prop :=
  ((Look.s_ask_sound v_net) ∧ (((Look.s_is_open v_net) ∧ ((Look.t_is_open v_net) = true → False) ∧ ((Look.t_is_open v_net) = false → ((s_crowd_stands__o v_net) ∧ (∀ xv1 ∈ (t_crowd_stands__o v_net), ((∀ xv2 ∈ xv1, ((Look.s_begin_count v_net xv2))) ∧ (xv1.length ≤ 10000))) ∧ (((t_crowd_stands__o v_net)).length ≤ 10000))))))
theorem e_crowds__o {v_net : Net} (h : s_crowds__o v_net) : fn_crowds__o [eNet v_net] = .ok ((eL (eT2 (eL D.int) D.int)) (t_crowds__o v_net)) (.dp (.l (.t (.cons (.l .z) (.cons .z .nil))))) .non := by
  refine run0 (F := (eL (eT2 (eL D.int) D.int))) (o := (.dp (.l (.t (.cons (.l .z) (.cons .z .nil)))))) (fb := fb_crowds__o) (x := t_crowds__o v_net) ?_
  show JR (eL (eT2 (eL D.int) D.int)) (.dp (.l (.t (.cons (.l .z) (.cons .z .nil))))) (fb_crowds__o [.fz (eNet v_net), .un, .un]) _
  delta fb_crowds__o t_crowds__o
  delta s_crowds__o at h
  exact sq (ρ1 := [.fz (eNet v_net), .un, .un]) (sDrop (mfz (cN (x1 (vf 0 rfl) x0) rfl rfl (Look.e_ask_sound (v_net := v_net) h.1 :) rfl))) (bdh h.2 (fun h => sqIf (tst (mfz (cN (x1 (vf 0 rfl) x0) rfl rfl (Look.e_is_open (v_net := v_net) h.1 :) rfl))) (fun hc => bdh (h.2.1 hc) (fun h => h.elim)) (fun hc => bdh (h.2.2 hc) (fun h => sq rfl (sRet (lcV (F := (eL D.int)) (G := (eT2 (eL D.int) D.int)) (φ := fun (xv1 : (List Int)) => (xv1, ((xv1.map (fun (xv2 : Int) => (Look.t_begin_count v_net xv2)))).sum)) (ρ1 := [.fz (eNet v_net), .un, .un]) (fun _ => rfl) (cN (x1 (vf 0 rfl) x0) rfl rfl (e_crowd_stands__o (v_net := v_net) h.1 :) rfl) rfl rfl (fun xv1 hx5 => ⟨_, mtupO (oS1 (i := 1) rfl rfl (oF1 (t_th (i := 1) rfl rfl (c1 (a1 (mfz (lcM (F := D.int) (G := D.int) (φ := fun (xv2 : Int) => (Look.t_begin_count v_net xv2)) (ρ1 := [.fz (eNet v_net), zJ xv1, .un]) (i_L (F := D.int) (vf 1 rfl)) rfl (fun xv2 hx3 => ⟨_, rfl, rfl, _, mfz (cN (x1 (vf 0 rfl) (x1 (vf 2 rfl) x0)) rfl rfl (Look.e_begin_count (v_net := v_net) (v_stand := xv2) ((h.2.1 xv1 hx5).1 xv2 hx3) :) rfl), rfl⟩) (h.2.1 xv1 hx5).2 rfl)) a0) o_sum) (⟨(.inl rfl), trivial, trivial, trivial⟩) rfl rfl) o0) rfl rfl), rfl⟩) h.2.2 rfl) (jr_mk rfl))))))
noncomputable def fb__law_crowds : M Fl :=
  mSeq (mSet 2 (mOf (mBin dAdd (M.pure (.int 1)) (mFz (mCallN 2 (some 0) Std.fn__law_take (xS 0 (xV (M.pure (.int 4)) xNil)))))))
    (mSeq (mSet 3 (mLcD [5] (.l .z) (mRange1 (mCons (mVar 2) mNil)) (gN 5) (M.pure true) (mLst mNil)))
    (mSeq (mFor (mRange1 (mCons (mVar 1) mNil)) (gN 4) (mSeq (mDeepApp 3 (pIx 3 (pRoot 3) (mFz (mCallN 2 (some 0) Std.fn__law_take (xS 0 (xV (mVar 2) xNil))))) (mVar 4))
    (mSeq (mKill [4]) mNx)))
    (mSeq (mFrz 3)
    (mRet (mLc [6] (mIter (mVar 3)) (gN 6) (mTest (mBin dNe (mVar 6) (mFz (mLst mNil)))) (mVar 6))))))
noncomputable def fn__law_crowds : List D → Rf := runF (some 0) 7 fb__law_crowds
noncomputable def t__law_crowds (v_stream_here : Std.Stm) (v_stands : Int) : ((List (List Int)) × Std.Stm) :=
  bd ((Std.t__law_take v_stream_here ((4 : Int))).2, ((1 : Int) + (Std.t__law_take v_stream_here ((4 : Int))).1)) (fun (z1 : (Std.Stm × Int)) => bd ((rangeI 0 z1.2).map (fun (xv2 : Int) => ([] : List Int))) (fun (v_found_5 : (List (List Int))) => bd ((rangeI 0 v_stands).foldl (fun (z6 : (Std.Stm × (List (List Int)))) (xv7 : Int) => bd ((Std.t__law_take z6.1 z1.2).2, (setI z6.2 ((Std.t__law_take z6.1 z1.2).1) (ix z6.2 ((Std.t__law_take z6.1 z1.2).1) ++ [xv7]))) (fun (z8 : (Std.Stm × (List (List Int)))) => (z8.1, z8.2))) (z1.1, v_found_5)) (fun (z9 : (Std.Stm × (List (List Int)))) => (((z9.2.filter (fun (xv10 : (List Int)) => (!decide (xv10 = ([] : List Int))))).map (fun (xv10 : (List Int)) => xv10)), z9.1))))
def s__law_crowds (v_stream_here : Std.Stm) (v_stands : Int) : Prop :=
  bd ((Std.t__law_take v_stream_here ((4 : Int))).2, ((1 : Int) + (Std.t__law_take v_stream_here ((4 : Int))).1)) (fun (z1 : (Std.Stm × Int)) => ((-100000000 < z1.2 ∧ z1.2 < 100000000) ∧ (((rangeI 0 z1.2)).length ≤ 10000) ∧ (bd ((rangeI 0 z1.2).map (fun (xv2 : Int) => ([] : List Int))) (fun (v_found_5 : (List (List Int))) => ((-100000000 < v_stands ∧ v_stands < 100000000) ∧ (sfl (fun (z6 : (Std.Stm × (List (List Int)))) (xv7 : Int) => bd ((Std.t__law_take z6.1 z1.2).2, (setI z6.2 ((Std.t__law_take z6.1 z1.2).1) (ix z6.2 ((Std.t__law_take z6.1 z1.2).1) ++ [xv7]))) (fun (z8 : (Std.Stm × (List (List Int)))) => (z8.1, z8.2))) (fun (z6 : (Std.Stm × (List (List Int)))) (xv7 : Int) => ((0 < z1.2) ∧ (InB z6.2.length ((Std.t__law_take z6.1 z1.2).1)) ∧ ((ix z6.2 ((Std.t__law_take z6.1 z1.2).1)).length < 10000))) (rangeI 0 v_stands) (z1.1, v_found_5)) ∧ (bd ((rangeI 0 v_stands).foldl (fun (z6 : (Std.Stm × (List (List Int)))) (xv7 : Int) => bd ((Std.t__law_take z6.1 z1.2).2, (setI z6.2 ((Std.t__law_take z6.1 z1.2).1) (ix z6.2 ((Std.t__law_take z6.1 z1.2).1) ++ [xv7]))) (fun (z8 : (Std.Stm × (List (List Int)))) => (z8.1, z8.2))) (z1.1, v_found_5)) (fun (z9 : (Std.Stm × (List (List Int)))) => (z9.2.length ≤ 10000))))))))
theorem e__law_crowds {v_stream_here : Std.Stm} {v_stands : Int} (h : s__law_crowds v_stream_here v_stands) : fn__law_crowds [Std.eStm v_stream_here, D.int v_stands] = .ok ((eL (eL D.int)) (t__law_crowds v_stream_here v_stands).1) .tt (Std.eStm (t__law_crowds v_stream_here v_stands).2) := by
  refine runI (F := (eL (eL D.int))) (G := Std.eStm) (o := .tt) (fb := fb__law_crowds) (x := t__law_crowds v_stream_here v_stands) ?_
  show JI 0 (eL (eL D.int)) Std.eStm .tt (fb__law_crowds [.io (Std.eStm v_stream_here), zI v_stands, .un, .un, .un, .un, .un]) _
  delta fb__law_crowds t__law_crowds
  delta s__law_crowds at h
  exact sqB (ctx := fun (z1 : (Std.Stm × Int)) => [.io (Std.eStm z1.1), zI v_stands, zI z1.2, .un, .un, .un, .un]) (sSet (mof (b2 rfl (mfz (cN (x1s (i := 0) rfl rfl (x1 rfl x0)) rfl rfl (Std.e__law_take (s := v_stream_here) (most := (4 : Int)) (show 0 < ((4 : Int)) by decide) :) rfl)) rfl)) rfl) h (fun z1 h => sqB (ctx := fun (v_found_5 : (List (List Int))) => [.io (Std.eStm z1.1), zI v_stands, zI z1.2, .dp (.l (.l .z)) ((eL (eL D.int)) v_found_5), .un, .un, .un]) (sSetD (lcD (F := D.int) (G := (eL D.int)) (φ := fun (xv2 : Int) => ([] : List Int)) (ρ1 := [.io (Std.eStm z1.1), zI v_stands, zI z1.2, .un, .un, .un, .un]) (fun _ => rfl) (i_r1 (a1 (vf 2 rfl) a0) h.1) rfl (fun xv2 hx3 => ⟨_, rfl, rfl, _, mlst a0, rfl⟩) h.2.1 rfl) rfl) h.2.2 (fun v_found_5 h => sqB (ctx := fun (z9 : (Std.Stm × (List (List Int)))) => [.io (Std.eStm z9.1), zI v_stands, zI z1.2, .dp (.l (.l .z)) ((eL (eL D.int)) z9.2), .un, .un, .un]) (forN (F := D.int) (ctx := fun (z6 : (Std.Stm × (List (List Int)))) => [.io (Std.eStm z6.1), zI v_stands, zI z1.2, .dp (.l (.l .z)) ((eL (eL D.int)) z6.2), .un, .un, .un]) (i_r1 (a1 (vf 1 rfl) a0) h.1) h.2.1 (fun z6 xv7 h => ⟨_, rfl, sqB (ctx := fun (z8 : (Std.Stm × (List (List Int)))) => [.io (Std.eStm z8.1), zI v_stands, zI z1.2, .dp (.l (.l .z)) ((eL (eL D.int)) z8.2), zI xv7, .un, .un]) (S := fun _ => True) (sDeepApp (i := 3) (F := D.int) (xs := z6.2) (v := xv7) rfl (mfz (cN (x1s (i := 0) rfl rfl (x1 (vf 2 rfl) x0)) rfl rfl (Std.e__law_take (s := z6.1) (most := z1.2) h.1 :) rfl)) rfl rfl (vf 4 rfl) rfl rfl h.2.1 h.2.2 rfl) trivial (fun z8 _ => sq (sKill (show _ = [.io (Std.eStm z8.1), zI v_stands, zI z1.2, .dp (.l (.l .z)) ((eL (eL D.int)) z8.2), .un, .un, .un] from rfl)) rfl)⟩)) h.2.2 (fun z9 h => sq (sFrzD (i := 3) rfl (show _ = [.io (Std.eStm z9.1), zI v_stands, zI z1.2, .fz ((eL (eL D.int)) z9.2), .un, .un, .un] from rfl)) (sRet (lcP (F := (eL D.int)) (G := (eL D.int)) (p := fun (xv10 : (List Int)) => (!decide (xv10 = ([] : List Int)))) (φ := fun (xv10 : (List Int)) => xv10) (ρ1 := [.io (Std.eStm z9.1), zI v_stands, zI z1.2, .fz ((eL (eL D.int)) z9.2), .un, .un, .un]) (i_L (F := (eL D.int)) (vf 3 rfl)) rfl (fun xv10 hx11 => ⟨_, rfl, tst (b2 (vf 6 rfl) (mfz (mlst a0)) ((o_ne (F := (eL D.int)) (x := xv10) (y := ([] : List Int)) (gL gI)))), rfl, fun hc12 => ⟨_, vf 6 rfl, rfl⟩⟩) h rfl) (ji_mk rfl rfl)))))
noncomputable def fb__law_ring : M Fl :=
  mSeq (mSet 2 (mListOf (mCons (mVar 1) mNil)))
    (mSeq (mSet 3 (mLst mNil))
    (mSeq (mWh (mTest (mBinL dNe 2 (mFz (mLst mNil)))) (mSeq (mApp1 3 (mPopAt 2 (mFz (mCallN 2 (some 0) Std.fn__law_take (xS 0 (xV (mLenL 2) xNil))))))
    mNx))
    (mRet (mMove 3))))
noncomputable def fn__law_ring : List D → Rf := runF (some 0) 4 fb__law_ring
noncomputable def t__law_ring (v_stream_here : Std.Stm) (v_crowd : (List Int)) : ((List Int) × Std.Stm) :=
  bd v_crowd (fun (v_left_1 : (List Int)) => bd ([] : List Int) (fun (v_found_2 : (List Int)) => bd (whl (fun (z3 : (Std.Stm × (List Int) × (List Int))) => (!decide (z3.2.1 = ([] : List Int)))) (fun (z3 : (Std.Stm × (List Int) × (List Int))) => bd ((Std.t__law_take z3.1 ((z3.2.1.length : Int))).2, (z3.2.1.eraseIdx (ixN' z3.2.1.length ((Std.t__law_take z3.1 ((z3.2.1.length : Int))).1))), (z3.2.2 ++ [(ix z3.2.1 ((Std.t__law_take z3.1 ((z3.2.1.length : Int))).1))])) (fun (z4 : (Std.Stm × (List Int) × (List Int))) => (z4.1, z4.2.1, z4.2.2))) (v_stream_here, v_left_1, v_found_2)) (fun (z5 : (Std.Stm × (List Int) × (List Int))) => (z5.2.2, z5.1))))
def s__law_ring (v_stream_here : Std.Stm) (v_crowd : (List Int)) : Prop :=
  bd v_crowd (fun (v_left_1 : (List Int)) => bd ([] : List Int) (fun (v_found_2 : (List Int)) => (swh (fun (z3 : (Std.Stm × (List Int) × (List Int))) => (!decide (z3.2.1 = ([] : List Int)))) (fun (z3 : (Std.Stm × (List Int) × (List Int))) => bd ((Std.t__law_take z3.1 ((z3.2.1.length : Int))).2, (z3.2.1.eraseIdx (ixN' z3.2.1.length ((Std.t__law_take z3.1 ((z3.2.1.length : Int))).1))), (z3.2.2 ++ [(ix z3.2.1 ((Std.t__law_take z3.1 ((z3.2.1.length : Int))).1))])) (fun (z4 : (Std.Stm × (List Int) × (List Int))) => (z4.1, z4.2.1, z4.2.2))) (fun (z3 : (Std.Stm × (List Int) × (List Int))) => ((!decide (z3.2.1 = ([] : List Int))) = true → ((0 < ((z3.2.1.length : Int))) ∧ (InB z3.2.1.length ((Std.t__law_take z3.1 ((z3.2.1.length : Int))).1)) ∧ (z3.2.1.length ≤ 10000) ∧ (z3.2.2.length < 10000)))) (v_stream_here, v_left_1, v_found_2))))
theorem e__law_ring {v_stream_here : Std.Stm} {v_crowd : (List Int)} (h : s__law_ring v_stream_here v_crowd) : fn__law_ring [Std.eStm v_stream_here, (eL D.int) v_crowd] = .ok ((eL D.int) (t__law_ring v_stream_here v_crowd).1) .tt (Std.eStm (t__law_ring v_stream_here v_crowd).2) := by
  refine runI (F := (eL D.int)) (G := Std.eStm) (o := .tt) (fb := fb__law_ring) (x := t__law_ring v_stream_here v_crowd) ?_
  show JI 0 (eL D.int) Std.eStm .tt (fb__law_ring [.io (Std.eStm v_stream_here), zJ v_crowd, .un, .un]) _
  delta fb__law_ring t__law_ring
  delta s__law_ring at h
  exact sqB (ctx := fun (v_left_1 : (List Int)) => [.io (Std.eStm v_stream_here), zJ v_crowd, .ow ((eL D.int) v_left_1), .un]) (sSetO (lofL (F := D.int) (a1 (vf 1 rfl) a0)) rfl) h (fun v_left_1 h => sqB (ctx := fun (v_found_2 : (List Int)) => [.io (Std.eStm v_stream_here), zJ v_crowd, .ow ((eL D.int) v_left_1), .ow ((eL D.int) v_found_2)]) (sSetO (mlst a0) rfl) h (fun v_found_2 h => sqB (ctx := fun (z5 : (Std.Stm × (List Int) × (List Int))) => [.io (Std.eStm z5.1), zJ v_crowd, .ow ((eL D.int) z5.2.1), .ow ((eL D.int) z5.2.2)]) (S := fun _ => True) (whN (ctx := fun (z3 : (Std.Stm × (List Int) × (List Int))) => [.io (Std.eStm z3.1), zJ v_crowd, .ow ((eL D.int) z3.2.1), .ow ((eL D.int) z3.2.2)]) (c := (fun (z3 : (Std.Stm × (List Int) × (List Int))) => (!decide (z3.2.1 = ([] : List Int))))) (w := (fun (z3 : (Std.Stm × (List Int) × (List Int))) => bd ((Std.t__law_take z3.1 ((z3.2.1.length : Int))).2, (z3.2.1.eraseIdx (ixN' z3.2.1.length ((Std.t__law_take z3.1 ((z3.2.1.length : Int))).1))), (z3.2.2 ++ [(ix z3.2.1 ((Std.t__law_take z3.1 ((z3.2.1.length : Int))).1))])) (fun (z4 : (Std.Stm × (List Int) × (List Int))) => (z4.1, z4.2.1, z4.2.2)))) (S := (fun (z3 : (Std.Stm × (List Int) × (List Int))) => ((!decide (z3.2.1 = ([] : List Int))) = true → ((0 < ((z3.2.1.length : Int))) ∧ (InB z3.2.1.length ((Std.t__law_take z3.1 ((z3.2.1.length : Int))).1)) ∧ (z3.2.1.length ≤ 10000) ∧ (z3.2.2.length < 10000))))) (s := (v_stream_here, v_left_1, v_found_2)) h (fun z3 h => tst (bnL (i := 2) rfl (mfz (mlst a0)) rfl ((o_ne (F := (eL D.int)) (x := z3.2.1) (y := ([] : List Int)) (gL gI))))) (fun z3 h hc => bdh (h hc) (fun h => sqB (ctx := fun (z4 : (Std.Stm × (List Int) × (List Int))) => [.io (Std.eStm z4.1), zJ v_crowd, .ow ((eL D.int) z4.2.1), .ow ((eL D.int) z4.2.2)]) (S := fun _ => True) (sApp (i := 3) (F := D.int) (xs := z3.2.2) (v := (ix z3.2.1 ((Std.t__law_take z3.1 ((z3.2.1.length : Int))).1))) (popO (i := 2) (F := D.int) (xs := z3.2.1) ⟨_, rfl⟩ (mfz (cN (x1s (i := 0) rfl rfl (x1 (lnL (i := 2) (F := D.int) rfl) x0)) rfl rfl (Std.e__law_take (s := z3.1) (most := (z3.2.1.length : Int)) h.1 :) rfl)) rfl h.2.1 h.2.2.1 rfl) ⟨_, rfl⟩ rfl h.2.2.2 rfl) trivial (fun z4 _ => rfl)))) trivial (fun z5 _ => sRet (mv_ow (i := 3) rfl) (ji_mk rfl rfl))))
noncomputable def fb__law_goes : M Fl :=
  mSeq (mSet 4 (mOf (mBin dIx (mVar 2) (mBin dMod (mBin dAdd (mIndexL 2 (mVar 3)) (M.pure (.int 1))) (mCall dLen (mCons (mVar 2) mNil))))))
    (mSeq (mSet 5 (mLc [7] (mIter (mVar 1)) (gN 7) (mOr (mTest (mBin dEq (mVar 7) (mVar 4))) (mTest (mBin dEq (mFz (mCallN 2 (some 0) Std.fn__law_take (xS 0 (xV (M.pure (.int 4)) xNil)))) (M.pure (.int 1))))) (mVar 7)))
    (mSeq (mFrz 5)
    (mSeq (mSet 6 (mLc [7] (mIter (mVar 5)) (gN 7) (M.pure true) (mBin dAdd (M.pure (.int 1)) (mFz (mCallN 2 (some 0) Std.fn__law_take (xS 0 (xV (M.pure (.int 5)) xNil)))))))
    (mSeq (mFrz 6)
    (mRet (mLc [7, 8] (mZip (mCons (mVar 5) (mCons (mVar 6) mNil))) (gT 2 (gsC (gN 7) (gsC (gN 8) gsN))) (M.pure true) (mTup (mCons (mVar 7) (mCons (mFz (mCallN 2 none Std.fn__law_fraction (xV (mVar 8) (xV (mCall dSum (mCons (mVar 6) mNil)) xNil)))) mNil)))))))))
noncomputable def fn__law_goes : List D → Rf := runF (some 0) 9 fb__law_goes
noncomputable def t__law_goes (v_stream_here : Std.Stm) (v_crowd : (List Int)) (v_ring_here : (List Int)) (v_stand : Int) : ((List Way) × Std.Stm) :=
  bd (ix v_ring_here ((((((fstI v_ring_here v_stand : Nat) : Int) + (1 : Int))).fmod ((v_ring_here.length : Int))))) (fun (v_following_1 : Int) => bd ((lcS (fun (xv2 : Int) (s5 : Std.Stm) => (((decide (xv2 = v_following_1)) || (decide ((Std.t__law_take s5 ((4 : Int))).1 = (1 : Int)))), (cond ((decide (xv2 = v_following_1))) s5 ((Std.t__law_take s5 ((4 : Int))).2)))) (fun (xv2 : Int) (s5 : Std.Stm) => (xv2, s5)) v_crowd v_stream_here).2, (lcS (fun (xv2 : Int) (s5 : Std.Stm) => (((decide (xv2 = v_following_1)) || (decide ((Std.t__law_take s5 ((4 : Int))).1 = (1 : Int)))), (cond ((decide (xv2 = v_following_1))) s5 ((Std.t__law_take s5 ((4 : Int))).2)))) (fun (xv2 : Int) (s5 : Std.Stm) => (xv2, s5)) v_crowd v_stream_here).1) (fun (z10 : (Std.Stm × (List Int))) => bd ((lcS (fun (xv11 : Int) (s12 : Std.Stm) => (true, s12)) (fun (xv11 : Int) (s12 : Std.Stm) => (((1 : Int) + (Std.t__law_take s12 ((5 : Int))).1), (Std.t__law_take s12 ((5 : Int))).2)) z10.2 z10.1).2, (lcS (fun (xv11 : Int) (s12 : Std.Stm) => (true, s12)) (fun (xv11 : Int) (s12 : Std.Stm) => (((1 : Int) + (Std.t__law_take s12 ((5 : Int))).1), (Std.t__law_take s12 ((5 : Int))).2)) z10.2 z10.1).1) (fun (z15 : (Std.Stm × (List Int))) => (((z10.2.zip z15.2).map (fun (xv16 : (Int × Int)) => (xv16.1, (Rat.divInt xv16.2 z15.2.sum)))), z15.1))))
def s__law_goes (v_stream_here : Std.Stm) (v_crowd : (List Int)) (v_ring_here : (List Int)) (v_stand : Int) : Prop :=
  ((v_stand ∈ v_ring_here) ∧ (((v_ring_here.length : Int)) ≠ 0) ∧ (InB v_ring_here.length ((((((fstI v_ring_here v_stand : Nat) : Int) + (1 : Int))).fmod ((v_ring_here.length : Int))))) ∧ (bd (ix v_ring_here ((((((fstI v_ring_here v_stand : Nat) : Int) + (1 : Int))).fmod ((v_ring_here.length : Int))))) (fun (v_following_1 : Int) => ((v_crowd.length ≤ 10000) ∧ (bd ((lcS (fun (xv2 : Int) (s5 : Std.Stm) => (((decide (xv2 = v_following_1)) || (decide ((Std.t__law_take s5 ((4 : Int))).1 = (1 : Int)))), (cond ((decide (xv2 = v_following_1))) s5 ((Std.t__law_take s5 ((4 : Int))).2)))) (fun (xv2 : Int) (s5 : Std.Stm) => (xv2, s5)) v_crowd v_stream_here).2, (lcS (fun (xv2 : Int) (s5 : Std.Stm) => (((decide (xv2 = v_following_1)) || (decide ((Std.t__law_take s5 ((4 : Int))).1 = (1 : Int)))), (cond ((decide (xv2 = v_following_1))) s5 ((Std.t__law_take s5 ((4 : Int))).2)))) (fun (xv2 : Int) (s5 : Std.Stm) => (xv2, s5)) v_crowd v_stream_here).1) (fun (z10 : (Std.Stm × (List Int))) => ((z10.2.length ≤ 10000) ∧ (bd ((lcS (fun (xv11 : Int) (s12 : Std.Stm) => (true, s12)) (fun (xv11 : Int) (s12 : Std.Stm) => (((1 : Int) + (Std.t__law_take s12 ((5 : Int))).1), (Std.t__law_take s12 ((5 : Int))).2)) z10.2 z10.1).2, (lcS (fun (xv11 : Int) (s12 : Std.Stm) => (true, s12)) (fun (xv11 : Int) (s12 : Std.Stm) => (((1 : Int) + (Std.t__law_take s12 ((5 : Int))).1), (Std.t__law_take s12 ((5 : Int))).2)) z10.2 z10.1).1) (fun (z15 : (Std.Stm × (List Int))) => ((∀ xv16 ∈ (z10.2.zip z15.2), ((0 < z15.2.sum))) ∧ (((z10.2.zip z15.2)).length ≤ 10000)))))))))))
theorem e__law_goes {v_stream_here : Std.Stm} {v_crowd : (List Int)} {v_ring_here : (List Int)} {v_stand : Int} (h : s__law_goes v_stream_here v_crowd v_ring_here v_stand) : fn__law_goes [Std.eStm v_stream_here, (eL D.int) v_crowd, (eL D.int) v_ring_here, D.int v_stand] = .ok ((eL eWay) (t__law_goes v_stream_here v_crowd v_ring_here v_stand).1) .tt (Std.eStm (t__law_goes v_stream_here v_crowd v_ring_here v_stand).2) := by
  refine runI (F := (eL eWay)) (G := Std.eStm) (o := .tt) (fb := fb__law_goes) (x := t__law_goes v_stream_here v_crowd v_ring_here v_stand) ?_
  show JI 0 (eL eWay) Std.eStm .tt (fb__law_goes [.io (Std.eStm v_stream_here), zJ v_crowd, zJ v_ring_here, zI v_stand, .un, .un, .un, .un, .un]) _
  delta fb__law_goes t__law_goes
  delta s__law_goes at h
  exact sqB (ctx := fun (v_following_1 : Int) => [.io (Std.eStm v_stream_here), zJ v_crowd, zJ v_ring_here, zI v_stand, zI v_following_1, .un, .un, .un, .un]) (sSet (mof (b2 (vf 2 rfl) (b2 (b2 (t_idx (i := 2) (ns := v_ring_here) (chk_fz rfl) rfl (vf 3 rfl) rfl h.1) rfl rfl) (c1 (a1 (vf 2 rfl) a0) (o_lenL (F := D.int))) (o_mod h.2.1)) (o_ixL (F := D.int) (xs := v_ring_here) h.2.2.1))) rfl) h.2.2.2 (fun v_following_1 h => sqB (ctx := fun (z10 : (Std.Stm × (List Int))) => [.io (Std.eStm z10.1), zJ v_crowd, zJ v_ring_here, zI v_stand, zI v_following_1, .ow ((eL D.int) z10.2), .un, .un, .un]) (sSetO (lcSt (F := D.int) (G := D.int) (p := (fun (xv2 : Int) (s5 : Std.Stm) => (((decide (xv2 = v_following_1)) || (decide ((Std.t__law_take s5 ((4 : Int))).1 = (1 : Int)))), (cond ((decide (xv2 = v_following_1))) s5 ((Std.t__law_take s5 ((4 : Int))).2))))) (φ := (fun (xv2 : Int) (s5 : Std.Stm) => (xv2, s5))) (S := (fun (xv2 : Int) (s5 : Std.Stm) => True)) (ctx := fun s_ => [.io (Std.eStm s_), zJ v_crowd, zJ v_ring_here, zI v_stand, zI v_following_1, .un, .un, .un, .un]) (ctx9 := fun s_ => [.io (Std.eStm s_), zJ v_crowd, zJ v_ring_here, zI v_stand, zI v_following_1, .un, .un, .un, .un]) (s := v_stream_here) (i_L (F := D.int) (vf 1 rfl)) rfl slcS_T (fun xv2 s5 hs8 => ⟨fun s_ => [.io (Std.eStm s_), zJ v_crowd, zJ v_ring_here, zI v_stand, zI v_following_1, .un, .un, zI xv2, .un], rfl, orS (ctx := fun z7 => [.io (Std.eStm z7), zJ v_crowd, zJ v_ring_here, zI v_stand, zI v_following_1, .un, .un, zI xv2, .un]) (s1 := s5) (s2 := (Std.t__law_take s5 ((4 : Int))).2) (tst (b2 (vf 7 rfl) (vf 4 rfl) dEq_i)) (fun hc6 => tst (b2 (mfz (cN (x1s (i := 0) rfl rfl (x1 rfl x0)) rfl rfl (Std.e__law_take (s := s5) (most := (4 : Int)) (show 0 < ((4 : Int)) by decide) :) rfl)) rfl dEq_i)), fun _ => rfl, fun hc9 => vf 7 rfl⟩) h.1 (fun _ => rfl)) rfl) h.2 (fun z10 h => sq (sFrz (i := 5) rfl (show _ = [.io (Std.eStm z10.1), zJ v_crowd, zJ v_ring_here, zI v_stand, zI v_following_1, zJ z10.2, .un, .un, .un] from rfl)) (sqB (ctx := fun (z15 : (Std.Stm × (List Int))) => [.io (Std.eStm z15.1), zJ v_crowd, zJ v_ring_here, zI v_stand, zI v_following_1, zJ z10.2, .ow ((eL D.int) z15.2), .un, .un]) (sSetO (lcSt (F := D.int) (G := D.int) (p := (fun (xv11 : Int) (s12 : Std.Stm) => (true, s12))) (φ := (fun (xv11 : Int) (s12 : Std.Stm) => (((1 : Int) + (Std.t__law_take s12 ((5 : Int))).1), (Std.t__law_take s12 ((5 : Int))).2))) (S := (fun (xv11 : Int) (s12 : Std.Stm) => True)) (ctx := fun s_ => [.io (Std.eStm s_), zJ v_crowd, zJ v_ring_here, zI v_stand, zI v_following_1, zJ z10.2, .un, .un, .un]) (ctx9 := fun s_ => [.io (Std.eStm s_), zJ v_crowd, zJ v_ring_here, zI v_stand, zI v_following_1, zJ z10.2, .un, .un, .un]) (s := z10.1) (i_L (F := D.int) (vf 5 rfl)) rfl slcS_T (fun xv11 s12 hs13 => ⟨fun s_ => [.io (Std.eStm s_), zJ v_crowd, zJ v_ring_here, zI v_stand, zI v_following_1, zJ z10.2, .un, zI xv11, .un], rfl, rfl, fun _ => rfl, fun hc14 => b2 rfl (mfz (cN (x1s (i := 0) rfl rfl (x1 rfl x0)) rfl rfl (Std.e__law_take (s := s12) (most := (5 : Int)) (show 0 < ((5 : Int)) by decide) :) rfl)) rfl⟩) h.1 (fun _ => rfl)) rfl) h.2 (fun z15 h => sq (sFrz (i := 6) rfl (show _ = [.io (Std.eStm z15.1), zJ v_crowd, zJ v_ring_here, zI v_stand, zI v_following_1, zJ z10.2, zJ z15.2, .un, .un] from rfl)) (sRet (lcM (F := (eT2 D.int D.int)) (G := eWay) (φ := fun (xv16 : (Int × Int)) => (xv16.1, (Rat.divInt xv16.2 z15.2.sum))) (ρ1 := [.io (Std.eStm z15.1), zJ v_crowd, zJ v_ring_here, zI v_stand, zI v_following_1, zJ z10.2, zJ z15.2, .un, .un]) (i_zip (F := D.int) (G := D.int) (a1 (vf 5 rfl) (a1 (vf 6 rfl) a0))) rfl (fun xv16 hx17 => ⟨_, rfl, rfl, _, mtup (a1 (vf 7 rfl) (a1 (mfz (cN (x1 (vf 8 rfl) (x1 (c1 (a1 (vf 6 rfl) a0) o_sum) x0)) rfl rfl (Std.e__law_fraction (a := xv16.2) (b := z15.2.sum) (h.1 xv16 hx17) :) rfl)) a0)), rfl⟩) h.2 rfl) (ji_mk rfl rfl))))))
noncomputable def fb__law_halved : M Fl :=
  mRet (mLc [1, 2] (mIter (mVar 0)) (gT 2 (gsC (gN 1) (gsC (gN 2) gsN))) (M.pure true) (mTup (mCons (mVar 1) (mCons (mFz (mCallN 2 none Std.fn__law_fraction (xV (mBin dIx (mVar 2) (M.pure (.int 0))) (xV (mBin dMul (M.pure (.int 2)) (mBin dIx (mVar 2) (M.pure (.int 1)))) xNil)))) mNil))))
noncomputable def fn__law_halved : List D → Rf := runF none 3 fb__law_halved
noncomputable def t__law_halved (v_ways : (List Way)) : (List Way) :=
  (v_ways.map (fun (xv1 : Way) => (xv1.1, (Rat.divInt xv1.2.num (((2 : Int) * (xv1.2.den : Int)))))))
def s__law_halved (v_ways : (List Way)) : Prop :=
  ((∀ xv1 ∈ v_ways, (((mulOk ((2 : Int)) ((xv1.2.den : Int)) = true) ∧ (0 < (((2 : Int) * (xv1.2.den : Int))))))) ∧ (v_ways.length ≤ 10000))
theorem e__law_halved {v_ways : (List Way)} (h : s__law_halved v_ways) : fn__law_halved [(eL eWay) v_ways] = .ok ((eL eWay) (t__law_halved v_ways)) .tt .non := by
  refine run0 (F := (eL eWay)) (o := .tt) (fb := fb__law_halved) (x := t__law_halved v_ways) ?_
  show JR (eL eWay) .tt (fb__law_halved [.fz ((eL eWay) v_ways), .un, .un]) _
  delta fb__law_halved t__law_halved
  delta s__law_halved at h
  exact sRet (lcM (F := eWay) (G := eWay) (φ := fun (xv1 : Way) => (xv1.1, (Rat.divInt xv1.2.num (((2 : Int) * (xv1.2.den : Int)))))) (ρ1 := [.fz ((eL eWay) v_ways), .un, .un]) (i_L (F := eWay) (vf 0 rfl)) rfl (fun xv1 hx2 => ⟨_, rfl, rfl, _, mtup (a1 (vf 1 rfl) (a1 (mfz (cN (x1 (b2 (vf 2 rfl) rfl rfl) (x1 (b2 rfl (b2 (vf 2 rfl) rfl rfl) (o_mul (h.1 xv1 hx2).1)) x0)) rfl rfl (Std.e__law_fraction (a := xv1.2.num) (b := ((2 : Int) * (xv1.2.den : Int))) (h.1 xv1 hx2).2 :) rfl)) a0)), rfl⟩) h.2 rfl) (jr_mk rfl)
noncomputable def fb__law_refused : M Fl :=
  mSeq (mTryAs ["OtherNet"] 1 ⟨"RestError", ["OtherNet"], fun c => mRet (mOf (mIsE c (["OtherNet"] : List Str)))⟩ (mSeq (mDrop (mFz (mCallN 1 none fn_crowds (xV (mVar 0) xNil))))
    mNx))
    (mRet (mOf (M.pure (.bl false))))
noncomputable def fn__law_refused : List D → Rf := runF none 2 fb__law_refused
@[irreducible] noncomputable def t__law_refused (v_net : Net) : Bool :=
  bd (rzOf (fn_crowds [eNet v_net])) (fun (c : Str) => decide (c ∈ (["OtherNet"] : List Str)))
def s__law_refused (v_net : Net) : Prop :=
  bd (rzOf (fn_crowds [eNet v_net])) (fun (c : Str) => (((r_crowds v_net c)) ∧ (c ∈ (["OtherNet"] : List Str))))
theorem e__law_refused {v_net : Net} (h : s__law_refused v_net) : fn__law_refused [eNet v_net] = .ok (D.bl (t__law_refused v_net)) .ff .non := by
  refine run0 (F := D.bl) (o := .ff) (fb := fb__law_refused) (x := t__law_refused v_net) ?_
  show JR D.bl .ff (fb__law_refused [.fz (eNet v_net), .un]) _
  delta fb__law_refused t__law_refused
  delta s__law_refused at h
  exact bdc (v := rzOf (fn_crowds [eNet v_net])) (S := fun c => (((r_crowds v_net c)) ∧ (c ∈ (["OtherNet"] : List Str)))) (b := fun (c : Str) => decide (c ∈ (["OtherNet"] : List Str))) h (fun c h => sqTryAs (ρ1 := [.fz (eNet v_net), .un]) (show _ = _ from bdh (Q := JZs [.fz (eNet v_net), .un] c _ ()) h.1 (fun h => (by first | exact cZ (x1 (vf 0 rfl) x0) rfl rfl (x_crowds (v_net := v_net) h) | exact bz (cZ (x1 (vf 0 rfl) x0) rfl rfl (x_crowds (v_net := v_net) h)) | exact bz (bz (cZ (x1 (vf 0 rfl) x0) rfl rfl (x_crowds (v_net := v_net) h))) | exact bz (bz (bz (cZ (x1 (vf 0 rfl) x0) rfl rfl (x_crowds (v_net := v_net) h)))) | exact bz (bz (bz (bz (cZ (x1 (vf 0 rfl) x0) rfl rfl (x_crowds (v_net := v_net) h))))) | exact bz (bz (bz (bz (bz (cZ (x1 (vf 0 rfl) x0) rfl rfl (x_crowds (v_net := v_net) h)))))) | exact bz (bz (bz (bz (bz (bz (cZ (x1 (vf 0 rfl) x0) rfl rfl (x_crowds (v_net := v_net) h))))))) | exact bz (bz (bz (bz (bz (bz (bz (cZ (x1 (vf 0 rfl) x0) rfl rfl (x_crowds (v_net := v_net) h))))))))))) h.2 rfl h.2 (sqUnI (rtE isE) (jr_mk rfl)))
noncomputable def fb_law : M Fl :=
  mSeq (mSet 1 (mCallN 2 none Std.fn__law_stream (xV (mVar 0) (xV (M.pure (.int 0)) xNil))))
    (mSeq (mSet 2 (mOf (mBin dAdd (M.pure (.int 1)) (mFz (mCallN 2 (some 0) Std.fn__law_take (xS 1 (xV (M.pure (.int 4)) xNil)))))))
    (mSeq (mSet 3 (mOf (mBin dAdd (mVar 2) (mFz (mCallN 2 (some 0) Std.fn__law_take (xS 1 (xV (mBin dSub (M.pure (.int 13)) (mVar 2)) xNil)))))))
    (mSeq (mSet 4 (mCallN 2 (some 0) fn__law_crowds (xS 1 (xV (mVar 3) xNil))))
    (mSeq (mSet 5 (mRepO (mFz (mLst (mCons (mFz (mLst mNil)) mNil))) (mVar 3)))
    (mSeq (mFrz 4)
    (mSeq (mFor (mIter (mVar 4)) (gN 6) (mSeq (mSet 18 (mCallN 2 (some 0) fn__law_ring (xS 1 (xV (mVar 6) xNil))))
    (mSeq (mFrz 18)
    (mSeq (mFor (mIter (mVar 6)) (gN 19) (mSeq (mPutAt 5 (mFz (mCallN 4 (some 0) fn__law_goes (xS 1 (xV (mVar 6) (xV (mVar 18) (xV (mVar 19) xNil)))))) (mVar 19))
    (mSeq (mKill [19]) mNx)))
    (mSeq (mKill [6, 18]) mNx)))))
    (mSeq (mSet 7 (mLst mNil))
    (mSeq (mFor (mRange1 (mCons (mVar 2) mNil)) (gN 8) (mSeq (mSet 20 (mOf (mBin dIx (mFz (mLst (mCons (mTup (mCons (M.pure (.int 0)) (mCons (M.pure (.str "")) mNil))) (mCons (mTup (mCons (M.pure (.int 8)) (mCons (M.pure (.str "stay")) mNil))) (mCons (mTup (mCons (M.pure (.int 9)) (mCons (M.pure (.str "skip")) mNil))) mNil))))) (mFz (mCallN 2 (some 0) Std.fn__law_take (xS 1 (xV (M.pure (.int 3)) xNil)))))))
    (mSeq (mApp1 7 (mTup (mCons (mFz (mLst (mCons (mTup (mCons (mBin dAdd (M.pure (.int 1)) (mFz (mCallN 2 (some 0) Std.fn__law_take (xS 1 (xV (M.pure (.int 5)) xNil))))) (mCons (M.pure (.int 1)) mNil))) mNil))) (mCons (mTup (mCons (M.pure (.int 0)) (mCons (M.pure (.int 1)) mNil))) (mCons (mBin dIx (mVar 20) (M.pure (.int 0))) (mCons (mBin dIx (mVar 20) (M.pure (.int 1))) mNil))))))
    (mSeq (mKill [8, 20]) mNx))))
    (mSeq (mSet 9 (mOf (mBin dAdd (mFz (mListRg1 (mVar 2))) (mFz (mLc [8] (mRange1 (mCons (mBin dSub (mVar 3) (mVar 2)) mNil)) (gN 8) (M.pure true) (mFz (mCallN 2 (some 0) Std.fn__law_take (xS 1 (xV (mVar 2) xNil)))))))))
    (mSeq (mSet 10 (mLc [22] (mRange1 (mCons (mVar 3) mNil)) (gN 22) (M.pure true) (mTup (mCons (mBin dIx (mVar 9) (mVar 22)) (mCons (mTup (mCons (mBin dAdd (M.pure (.int 1)) (mFz (mCallN 2 (some 0) Std.fn__law_take (xS 1 (xV (M.pure (.int 5)) xNil))))) (mCons (M.pure (.int 1)) mNil))) (mCons (mPeek 5 (mVar 22)) mNil))))))
    (mSeq (mSet 11 (mRepO (mFz (mLst (mCons (M.pure (.int 0)) mNil))) (mVar 3)))
    (mSeq (mFor (mRange1 (mCons (mBin dAdd (M.pure (.int 1)) (mFz (mCallN 2 (some 0) Std.fn__law_take (xS 1 (xV (M.pure (.int 8)) xNil))))) mNil)) (gN 8) (mSeq (mSet 21 (mCallN 2 (some 0) Std.fn__law_take (xS 1 (xV (mVar 3) xNil))))
    (mSeq (mPutAt 11 (mBin dAdd (mPeek 11 (mVar 21)) (M.pure (.int 1))) (mVar 21))
    (mSeq (mKill [8, 21]) mNx))))
    (mSeq (mFrz 7)
    (mSeq (mFrz 10)
    (mSeq (mFrz 11)
    (mSeq (mSet 12 (mCallN 3 none Net.fn_made_net (xV (mVar 7) (xV (mVar 10) (xV (mTup (mCons (M.pure (.str "shut")) (mCons (mVar 11) mNil))) xNil)))))
    (mSeq (mSet 13 (mCallN 3 none Net.fn_made_net (xV (mVar 7) (xV (mVar 10) (xV (mTup (mCons (M.pure (.str "shut")) (mCons (mVar 11) mNil))) xNil)))))
    (mSeq (mSet 14 (mSortLI (mCons (mFz (mLc [6] (mIter (mVar 4)) (gN 6) (M.pure true) (mTup (mCons (mVar 6) (mCons (mCall dSum (mCons (mFz (mLc [22] (mIter (mVar 6)) (gN 22) (M.pure true) (mPeek 11 (mVar 22)))) mNil)) mNil))))) mNil)))
    (mSeq (mSet 15 (mCallN 1 none fn_crowds__o (xV (mVar 12) xNil)))
    (mSeq (mFrz 14)
    (mSeq (mFrz 5)
    (mSeq (mIf (mTh (fun _ => True) 15 (mOr (mNot (mTest (mIsi "list" (mVar 15)))) (mOr (mTest (mBin dNe (mVar 15) (mVar 14))) (mTest (mBin dNe (mVar 12) (mVar 13)))))) (mRet (mOf (M.pure (.bl false)))) mNx)
    (mSeq (mDeepApp 15 (pIx 15 (pIx 15 (pRoot 15) (M.pure (.int 0))) (M.pure (.int 0))) (M.pure (.int 12)))
    (mSeq (mIf (mOr (mTest (mBin dNe (mFz (mCallN 1 none fn_crowds__o (xV (mVar 12) xNil))) (mVar 14))) (mTest (mBin dNe (mVar 12) (mVar 13)))) (mRet (mOf (M.pure (.bl false)))) mNx)
    (mSeq (mSet 16 (mLc [24, 25, 26] (mIter (mVar 10)) (gT 3 (gsC (gN 24) (gsC (gN 25) (gsC (gN 26) gsN)))) (M.pure true) (mTup (mCons (mVar 24) (mCons (mVar 25) (mCons (mFz (mCallN 1 none fn__law_halved (xV (mVar 26) xNil))) mNil))))))
    (mSeq (mSet 17 (mLc [23] (mIter (mVar 7)) (gN 23) (M.pure true) (mTup (mCons (mBin dIx (mVar 23) (M.pure (.int 0))) (mCons (mBin dIx (mVar 23) (M.pure (.int 1))) (mCons (M.pure (.int 0)) (mCons (M.pure (.str "")) mNil)))))))
    (mSeq (mFrz 16)
    (mSeq (mFrz 17)
    (mRet (mCallN 1 none fn__law_refused (xV (mFz (mCallN 3 none Net.fn_made_net (xV (mVar 17) (xV (mVar 16) (xV (mTup (mCons (M.pure (.str "open")) (mCons (mBin dMul (mFz (mLst (mCons (mTup (mCons (M.pure (.int 1)) (mCons (M.pure (.int 1)) mNil))) mNil))) (mVar 3)) mNil))) xNil))))) xNil)))))))))))))))))))))))))))))))
noncomputable def fn_law : List D → Rf := runF none 27 fb_law
noncomputable def t_law (v_script : (List Int)) : Bool :=
  bd (Std.t__law_stream v_script ((0 : Int))) (fun (v_stream_here_1 : Std.Stm) => bd ((Std.t__law_take v_stream_here_1 ((4 : Int))).2, ((1 : Int) + (Std.t__law_take v_stream_here_1 ((4 : Int))).1)) (fun (z2 : (Std.Stm × Int)) => bd ((Std.t__law_take z2.1 (((13 : Int) - z2.2))).2, (z2.2 + (Std.t__law_take z2.1 (((13 : Int) - z2.2))).1)) (fun (z3 : (Std.Stm × Int)) => bd ((t__law_crowds z3.1 z3.2).2, (t__law_crowds z3.1 z3.2).1) (fun (z4 : (Std.Stm × (List (List Int)))) => bd (repI (([([] : List Way)] : List (List Way))) z3.2) (fun (v_goes_here_5 : (List (List Way))) => bd (z4.2.foldl (fun (z6 : (Std.Stm × (List (List Way)))) (xv7 : (List Int)) => bd ((t__law_ring z6.1 xv7).2, (t__law_ring z6.1 xv7).1) (fun (z8 : (Std.Stm × (List Int))) => bd (xv7.foldl (fun (z9 : (Std.Stm × (List (List Way)))) (xv10 : Int) => bd ((t__law_goes z9.1 xv7 z8.2 xv10).2, (setI z9.2 xv10 ((t__law_goes z9.1 xv7 z8.2 xv10).1))) (fun (z11 : (Std.Stm × (List (List Way)))) => (z11.1, z11.2))) (z8.1, z6.2)) (fun (z12 : (Std.Stm × (List (List Way)))) => (z12.1, z12.2)))) (z4.1, v_goes_here_5)) (fun (z13 : (Std.Stm × (List (List Way)))) => bd ([] : List Line) (fun (v_row_14 : (List Line)) => bd ((rangeI 0 z2.2).foldl (fun (z15 : (Std.Stm × (List Line))) (xv16 : Int) => bd ((Std.t__law_take z15.1 ((3 : Int))).2, (ix (([((0 : Int), ("" : Str)), ((8 : Int), ("stay" : Str)), ((9 : Int), ("skip" : Str))] : List (Int × Str))) ((Std.t__law_take z15.1 ((3 : Int))).1))) (fun (z17 : (Std.Stm × (Int × Str))) => bd ((Std.t__law_take z17.1 ((5 : Int))).2, (z15.2 ++ [(([(mkq (((1 : Int) + (Std.t__law_take z17.1 ((5 : Int))).1), (1 : Int)))] : List Rat), (0 : Rat), z17.2.1, z17.2.2)])) (fun (z18 : (Std.Stm × (List Line))) => (z18.1, z18.2)))) (z13.1, v_row_14)) (fun (z19 : (Std.Stm × (List Line))) => bd ((lcS (fun (xv20 : Int) (s21 : Std.Stm) => (true, s21)) (fun (xv20 : Int) (s21 : Std.Stm) => ((Std.t__law_take s21 z2.2).1, (Std.t__law_take s21 z2.2).2)) (rangeI 0 ((z3.2 - z2.2))) z19.1).2, ((rangeI 0 z2.2) ++ (lcS (fun (xv20 : Int) (s21 : Std.Stm) => (true, s21)) (fun (xv20 : Int) (s21 : Std.Stm) => ((Std.t__law_take s21 z2.2).1, (Std.t__law_take s21 z2.2).2)) (rangeI 0 ((z3.2 - z2.2))) z19.1).1)) (fun (z24 : (Std.Stm × (List Int))) => bd ((lcS (fun (xv25 : Int) (s26 : Std.Stm) => (true, s26)) (fun (xv25 : Int) (s26 : Std.Stm) => (((ix z24.2 xv25), (mkq (((1 : Int) + (Std.t__law_take s26 ((5 : Int))).1), (1 : Int))), (ix z13.2 xv25)), (Std.t__law_take s26 ((5 : Int))).2)) (rangeI 0 z3.2) z24.1).2, (lcS (fun (xv25 : Int) (s26 : Std.Stm) => (true, s26)) (fun (xv25 : Int) (s26 : Std.Stm) => (((ix z24.2 xv25), (mkq (((1 : Int) + (Std.t__law_take s26 ((5 : Int))).1), (1 : Int))), (ix z13.2 xv25)), (Std.t__law_take s26 ((5 : Int))).2)) (rangeI 0 z3.2) z24.1).1) (fun (z29 : (Std.Stm × (List Stand))) => bd (repI (([(0 : Int)] : List Int)) z3.2) (fun (v_counts_30 : (List Int)) => bd ((rangeI 0 (((1 : Int) + (Std.t__law_take z29.1 ((8 : Int))).1))).foldl (fun (z31 : (Std.Stm × (List Int))) (xv32 : Int) => bd ((Std.t__law_take z31.1 z3.2).2, (Std.t__law_take z31.1 z3.2).1) (fun (z33 : (Std.Stm × Int)) => bd (setI z31.2 z33.2 (((ix z31.2 z33.2) + (1 : Int)))) (fun (v_counts_34 : (List Int)) => (z33.1, v_counts_34)))) ((Std.t__law_take z29.1 ((8 : Int))).2, v_counts_30)) (fun (z35 : (Std.Stm × (List Int))) => bd ((z19.2, z29.2, (("shut" : Str), (Sum.inr z35.2 : Num))) : Net) (fun (v_net_36 : Net) => bd ((z19.2, z29.2, (("shut" : Str), (Sum.inr z35.2 : Num))) : Net) (fun (v_kept_37 : Net) => bd (sortLI ((z4.2.map (fun (xv38 : (List Int)) => (xv38, ((xv38.map (fun (xv39 : Int) => (ix z35.2 xv39)))).sum))))) (fun (v_due_44 : (List ((List Int) × Int))) => bd (t_crowds__o v_net_36) (fun (v_told_45 : (List ((List Int) × Int))) => cond ((!true) || ((!decide (v_told_45 = v_due_44)) || (!decide (v_net_36 = v_kept_37)))) false (bd (setI v_told_45 ((0 : Int)) ((ix v_told_45 ((0 : Int))).1 ++ [(12 : Int)], (ix v_told_45 ((0 : Int))).2)) (fun (v_told_48 : (List ((List Int) × Int))) => cond ((!decide ((t_crowds__o v_net_36) = v_due_44)) || (!decide (v_net_36 = v_kept_37))) false (bd (z29.2.map (fun (xv50 : Stand) => (xv50.1, xv50.2.1, (t__law_halved xv50.2.2)))) (fun (v_half_53 : (List Stand)) => bd (z19.2.map (fun (xv54 : Line) => (xv54.1, xv54.2.1, (0 : Int), ("" : Str)))) (fun (v_wide_57 : (List Line)) => (t__law_refused (((v_wide_57, v_half_53, (("open" : Str), (Sum.inl ((repI (([(1 : Rat)] : List Rat)) z3.2)) : Num))) : Net))))))))))))))))))))))))
def s_law (v_script : (List Int)) : Prop :=
  bd (Std.t__law_stream v_script ((0 : Int))) (fun (v_stream_here_1 : Std.Stm) => bd ((Std.t__law_take v_stream_here_1 ((4 : Int))).2, ((1 : Int) + (Std.t__law_take v_stream_here_1 ((4 : Int))).1)) (fun (z2 : (Std.Stm × Int)) => ((0 < (((13 : Int) - z2.2))) ∧ (bd ((Std.t__law_take z2.1 (((13 : Int) - z2.2))).2, (z2.2 + (Std.t__law_take z2.1 (((13 : Int) - z2.2))).1)) (fun (z3 : (Std.Stm × Int)) => ((s__law_crowds z3.1 z3.2) ∧ (bd ((t__law_crowds z3.1 z3.2).2, (t__law_crowds z3.1 z3.2).1) (fun (z4 : (Std.Stm × (List (List Int)))) => ((z3.2 < 10000 ∧ -10000 < z3.2 ∧ (([([] : List Way)] : List (List Way))).length ≤ 1000) ∧ (bd (repI (([([] : List Way)] : List (List Way))) z3.2) (fun (v_goes_here_5 : (List (List Way))) => ((sfl (fun (z6 : (Std.Stm × (List (List Way)))) (xv7 : (List Int)) => bd ((t__law_ring z6.1 xv7).2, (t__law_ring z6.1 xv7).1) (fun (z8 : (Std.Stm × (List Int))) => bd (xv7.foldl (fun (z9 : (Std.Stm × (List (List Way)))) (xv10 : Int) => bd ((t__law_goes z9.1 xv7 z8.2 xv10).2, (setI z9.2 xv10 ((t__law_goes z9.1 xv7 z8.2 xv10).1))) (fun (z11 : (Std.Stm × (List (List Way)))) => (z11.1, z11.2))) (z8.1, z6.2)) (fun (z12 : (Std.Stm × (List (List Way)))) => (z12.1, z12.2)))) (fun (z6 : (Std.Stm × (List (List Way)))) (xv7 : (List Int)) => ((s__law_ring z6.1 xv7) ∧ (bd ((t__law_ring z6.1 xv7).2, (t__law_ring z6.1 xv7).1) (fun (z8 : (Std.Stm × (List Int))) => (sfl (fun (z9 : (Std.Stm × (List (List Way)))) (xv10 : Int) => bd ((t__law_goes z9.1 xv7 z8.2 xv10).2, (setI z9.2 xv10 ((t__law_goes z9.1 xv7 z8.2 xv10).1))) (fun (z11 : (Std.Stm × (List (List Way)))) => (z11.1, z11.2))) (fun (z9 : (Std.Stm × (List (List Way)))) (xv10 : Int) => ((s__law_goes z9.1 xv7 z8.2 xv10) ∧ (InB z9.2.length xv10))) xv7 (z8.1, z6.2)))))) z4.2 (z4.1, v_goes_here_5)) ∧ (bd (z4.2.foldl (fun (z6 : (Std.Stm × (List (List Way)))) (xv7 : (List Int)) => bd ((t__law_ring z6.1 xv7).2, (t__law_ring z6.1 xv7).1) (fun (z8 : (Std.Stm × (List Int))) => bd (xv7.foldl (fun (z9 : (Std.Stm × (List (List Way)))) (xv10 : Int) => bd ((t__law_goes z9.1 xv7 z8.2 xv10).2, (setI z9.2 xv10 ((t__law_goes z9.1 xv7 z8.2 xv10).1))) (fun (z11 : (Std.Stm × (List (List Way)))) => (z11.1, z11.2))) (z8.1, z6.2)) (fun (z12 : (Std.Stm × (List (List Way)))) => (z12.1, z12.2)))) (z4.1, v_goes_here_5)) (fun (z13 : (Std.Stm × (List (List Way)))) => bd ([] : List Line) (fun (v_row_14 : (List Line)) => ((-100000000 < z2.2 ∧ z2.2 < 100000000) ∧ (sfl (fun (z15 : (Std.Stm × (List Line))) (xv16 : Int) => bd ((Std.t__law_take z15.1 ((3 : Int))).2, (ix (([((0 : Int), ("" : Str)), ((8 : Int), ("stay" : Str)), ((9 : Int), ("skip" : Str))] : List (Int × Str))) ((Std.t__law_take z15.1 ((3 : Int))).1))) (fun (z17 : (Std.Stm × (Int × Str))) => bd ((Std.t__law_take z17.1 ((5 : Int))).2, (z15.2 ++ [(([(mkq (((1 : Int) + (Std.t__law_take z17.1 ((5 : Int))).1), (1 : Int)))] : List Rat), (0 : Rat), z17.2.1, z17.2.2)])) (fun (z18 : (Std.Stm × (List Line))) => (z18.1, z18.2)))) (fun (z15 : (Std.Stm × (List Line))) (xv16 : Int) => ((InB (([((0 : Int), ("" : Str)), ((8 : Int), ("stay" : Str)), ((9 : Int), ("skip" : Str))] : List (Int × Str))).length ((Std.t__law_take z15.1 ((3 : Int))).1)) ∧ (bd ((Std.t__law_take z15.1 ((3 : Int))).2, (ix (([((0 : Int), ("" : Str)), ((8 : Int), ("stay" : Str)), ((9 : Int), ("skip" : Str))] : List (Int × Str))) ((Std.t__law_take z15.1 ((3 : Int))).1))) (fun (z17 : (Std.Stm × (Int × Str))) => ((IsQ (((1 : Int) + (Std.t__law_take z17.1 ((5 : Int))).1), (1 : Int))) ∧ (z15.2.length < 10000)))))) (rangeI 0 z2.2) (z13.1, v_row_14)) ∧ (bd ((rangeI 0 z2.2).foldl (fun (z15 : (Std.Stm × (List Line))) (xv16 : Int) => bd ((Std.t__law_take z15.1 ((3 : Int))).2, (ix (([((0 : Int), ("" : Str)), ((8 : Int), ("stay" : Str)), ((9 : Int), ("skip" : Str))] : List (Int × Str))) ((Std.t__law_take z15.1 ((3 : Int))).1))) (fun (z17 : (Std.Stm × (Int × Str))) => bd ((Std.t__law_take z17.1 ((5 : Int))).2, (z15.2 ++ [(([(mkq (((1 : Int) + (Std.t__law_take z17.1 ((5 : Int))).1), (1 : Int)))] : List Rat), (0 : Rat), z17.2.1, z17.2.2)])) (fun (z18 : (Std.Stm × (List Line))) => (z18.1, z18.2)))) (z13.1, v_row_14)) (fun (z19 : (Std.Stm × (List Line))) => ((-10000 < z2.2 ∧ z2.2 < 10000) ∧ (-100000000 < ((z3.2 - z2.2)) ∧ ((z3.2 - z2.2)) < 100000000) ∧ (slcS (fun (xv20 : Int) (s21 : Std.Stm) => (true, s21)) (fun (xv20 : Int) (s21 : Std.Stm) => ((Std.t__law_take s21 z2.2).1, (Std.t__law_take s21 z2.2).2)) (fun (xv20 : Int) (s21 : Std.Stm) => ((0 < z2.2))) (rangeI 0 ((z3.2 - z2.2))) z19.1) ∧ (((rangeI 0 ((z3.2 - z2.2)))).length ≤ 10000) ∧ (((rangeI 0 z2.2)).length + ((lcS (fun (xv20 : Int) (s21 : Std.Stm) => (true, s21)) (fun (xv20 : Int) (s21 : Std.Stm) => ((Std.t__law_take s21 z2.2).1, (Std.t__law_take s21 z2.2).2)) (rangeI 0 ((z3.2 - z2.2))) z19.1).1).length ≤ 10000) ∧ (bd ((lcS (fun (xv20 : Int) (s21 : Std.Stm) => (true, s21)) (fun (xv20 : Int) (s21 : Std.Stm) => ((Std.t__law_take s21 z2.2).1, (Std.t__law_take s21 z2.2).2)) (rangeI 0 ((z3.2 - z2.2))) z19.1).2, ((rangeI 0 z2.2) ++ (lcS (fun (xv20 : Int) (s21 : Std.Stm) => (true, s21)) (fun (xv20 : Int) (s21 : Std.Stm) => ((Std.t__law_take s21 z2.2).1, (Std.t__law_take s21 z2.2).2)) (rangeI 0 ((z3.2 - z2.2))) z19.1).1)) (fun (z24 : (Std.Stm × (List Int))) => ((-100000000 < z3.2 ∧ z3.2 < 100000000) ∧ (slcS (fun (xv25 : Int) (s26 : Std.Stm) => (true, s26)) (fun (xv25 : Int) (s26 : Std.Stm) => (((ix z24.2 xv25), (mkq (((1 : Int) + (Std.t__law_take s26 ((5 : Int))).1), (1 : Int))), (ix z13.2 xv25)), (Std.t__law_take s26 ((5 : Int))).2)) (fun (xv25 : Int) (s26 : Std.Stm) => (((InB z24.2.length xv25) ∧ (IsQ (((1 : Int) + (Std.t__law_take s26 ((5 : Int))).1), (1 : Int))) ∧ (InB z13.2.length xv25)))) (rangeI 0 z3.2) z24.1) ∧ (((rangeI 0 z3.2)).length ≤ 10000) ∧ (bd ((lcS (fun (xv25 : Int) (s26 : Std.Stm) => (true, s26)) (fun (xv25 : Int) (s26 : Std.Stm) => (((ix z24.2 xv25), (mkq (((1 : Int) + (Std.t__law_take s26 ((5 : Int))).1), (1 : Int))), (ix z13.2 xv25)), (Std.t__law_take s26 ((5 : Int))).2)) (rangeI 0 z3.2) z24.1).2, (lcS (fun (xv25 : Int) (s26 : Std.Stm) => (true, s26)) (fun (xv25 : Int) (s26 : Std.Stm) => (((ix z24.2 xv25), (mkq (((1 : Int) + (Std.t__law_take s26 ((5 : Int))).1), (1 : Int))), (ix z13.2 xv25)), (Std.t__law_take s26 ((5 : Int))).2)) (rangeI 0 z3.2) z24.1).1) (fun (z29 : (Std.Stm × (List Stand))) => ((z3.2 < 10000 ∧ -10000 < z3.2 ∧ (([(0 : Int)] : List Int)).length ≤ 1000) ∧ (bd (repI (([(0 : Int)] : List Int)) z3.2) (fun (v_counts_30 : (List Int)) => ((-100000000 < (((1 : Int) + (Std.t__law_take z29.1 ((8 : Int))).1)) ∧ (((1 : Int) + (Std.t__law_take z29.1 ((8 : Int))).1)) < 100000000) ∧ (sfl (fun (z31 : (Std.Stm × (List Int))) (xv32 : Int) => bd ((Std.t__law_take z31.1 z3.2).2, (Std.t__law_take z31.1 z3.2).1) (fun (z33 : (Std.Stm × Int)) => bd (setI z31.2 z33.2 (((ix z31.2 z33.2) + (1 : Int)))) (fun (v_counts_34 : (List Int)) => (z33.1, v_counts_34)))) (fun (z31 : (Std.Stm × (List Int))) (xv32 : Int) => ((0 < z3.2) ∧ (bd ((Std.t__law_take z31.1 z3.2).2, (Std.t__law_take z31.1 z3.2).1) (fun (z33 : (Std.Stm × Int)) => ((InB z31.2.length z33.2) ∧ (InB z31.2.length z33.2)))))) (rangeI 0 (((1 : Int) + (Std.t__law_take z29.1 ((8 : Int))).1))) ((Std.t__law_take z29.1 ((8 : Int))).2, v_counts_30)) ∧ (bd ((rangeI 0 (((1 : Int) + (Std.t__law_take z29.1 ((8 : Int))).1))).foldl (fun (z31 : (Std.Stm × (List Int))) (xv32 : Int) => bd ((Std.t__law_take z31.1 z3.2).2, (Std.t__law_take z31.1 z3.2).1) (fun (z33 : (Std.Stm × Int)) => bd (setI z31.2 z33.2 (((ix z31.2 z33.2) + (1 : Int)))) (fun (v_counts_34 : (List Int)) => (z33.1, v_counts_34)))) ((Std.t__law_take z29.1 ((8 : Int))).2, v_counts_30)) (fun (z35 : (Std.Stm × (List Int))) => ((Net.GoodNet z19.2 z29.2 ((("shut" : Str), (Sum.inr z35.2 : Num)))) ∧ (bd ((z19.2, z29.2, (("shut" : Str), (Sum.inr z35.2 : Num))) : Net) (fun (v_net_36 : Net) => ((Net.GoodNet z19.2 z29.2 ((("shut" : Str), (Sum.inr z35.2 : Num)))) ∧ (bd ((z19.2, z29.2, (("shut" : Str), (Sum.inr z35.2 : Num))) : Net) (fun (v_kept_37 : Net) => ((∀ xv38 ∈ z4.2, (((∀ xv39 ∈ xv38, ((InB z35.2.length xv39))) ∧ (xv38.length ≤ 10000)))) ∧ (z4.2.length ≤ 10000) ∧ (bd (sortLI ((z4.2.map (fun (xv38 : (List Int)) => (xv38, ((xv38.map (fun (xv39 : Int) => (ix z35.2 xv39)))).sum))))) (fun (v_due_44 : (List ((List Int) × Int))) => ((s_crowds__o v_net_36) ∧ (bd (t_crowds__o v_net_36) (fun (v_told_45 : (List ((List Int) × Int))) => (((!true) = false → ((!decide (v_told_45 = v_due_44)) = false → ((OkE eNet v_net_36) ∧ (OkE eNet v_kept_37) ∧ (eNet v_net_36 = eNet v_kept_37 → v_net_36 = v_kept_37)))) ∧ (((!true) || ((!decide (v_told_45 = v_due_44)) || (!decide (v_net_36 = v_kept_37)))) = false → ((InB v_told_45.length ((0 : Int))) ∧ ((ix v_told_45 ((0 : Int))).1.length < 10000) ∧ (bd (setI v_told_45 ((0 : Int)) ((ix v_told_45 ((0 : Int))).1 ++ [(12 : Int)], (ix v_told_45 ((0 : Int))).2)) (fun (v_told_48 : (List ((List Int) × Int))) => ((s_crowds__o v_net_36) ∧ ((!decide ((t_crowds__o v_net_36) = v_due_44)) = false → ((OkE eNet v_net_36) ∧ (OkE eNet v_kept_37) ∧ (eNet v_net_36 = eNet v_kept_37 → v_net_36 = v_kept_37))) ∧ (((!decide ((t_crowds__o v_net_36) = v_due_44)) || (!decide (v_net_36 = v_kept_37))) = false → ((∀ xv50 ∈ z29.2, ((s__law_halved xv50.2.2))) ∧ (z29.2.length ≤ 10000) ∧ (bd (z29.2.map (fun (xv50 : Stand) => (xv50.1, xv50.2.1, (t__law_halved xv50.2.2)))) (fun (v_half_53 : (List Stand)) => ((z19.2.length ≤ 10000) ∧ (bd (z19.2.map (fun (xv54 : Line) => (xv54.1, xv54.2.1, (0 : Int), ("" : Str)))) (fun (v_wide_57 : (List Line)) => ((z3.2 < 10000 ∧ -10000 < z3.2 ∧ (([(1 : Rat)] : List Rat)).length ≤ 1000) ∧ (Net.GoodNet v_wide_57 v_half_53 ((("open" : Str), (Sum.inl ((repI (([(1 : Rat)] : List Rat)) z3.2)) : Num)))) ∧ (s__law_refused (((v_wide_57, v_half_53, (("open" : Str), (Sum.inl ((repI (([(1 : Rat)] : List Rat)) z3.2)) : Num))) : Net)))))))))))))))))))))))))))))))))))))))))))))))))))))))))))
theorem e_law {v_script : (List Int)} (h : s_law v_script) : fn_law [D.scr v_script] = .ok (D.bl (t_law v_script)) .ff .non := by
  refine run0 (F := D.bl) (o := .ff) (fb := fb_law) (x := t_law v_script) ?_
  show JR D.bl .ff (fb_law [.fz (D.scr v_script), .un, .un, .un, .un, .un, .un, .un, .un, .un, .un, .un, .un, .un, .un, .un, .un, .un, .un, .un, .un, .un, .un, .un, .un, .un, .un]) _
  delta fb_law t_law
  delta s_law at h
  exact sqB (ctx := fun (v_stream_here_1 : Std.Stm) => [.fz (D.scr v_script), .ow (Std.eStm v_stream_here_1), .un, .un, .un, .un, .un, .un, .un, .un, .un, .un, .un, .un, .un, .un, .un, .un, .un, .un, .un, .un, .un, .un, .un, .un, .un]) (sSetO (cN (x1 (vf 0 rfl) (x1 rfl x0)) rfl rfl (Std.e__law_stream (ns := v_script) (k := (0 : Int)) (show 0 ≤ ((0 : Int)) ∧ ((0 : Int)) < 1000 by decide) :) rfl) rfl) h (fun v_stream_here_1 h => sqB (ctx := fun (z2 : (Std.Stm × Int)) => [.fz (D.scr v_script), .ow (Std.eStm z2.1), zI z2.2, .un, .un, .un, .un, .un, .un, .un, .un, .un, .un, .un, .un, .un, .un, .un, .un, .un, .un, .un, .un, .un, .un, .un, .un]) (sSet (mof (b2 rfl (mfz (cN (x1s (i := 1) rfl rfl (x1 rfl x0)) rfl rfl (Std.e__law_take (s := v_stream_here_1) (most := (4 : Int)) (show 0 < ((4 : Int)) by decide) :) rfl)) rfl)) rfl) h (fun z2 h => sqB (ctx := fun (z3 : (Std.Stm × Int)) => [.fz (D.scr v_script), .ow (Std.eStm z3.1), zI z2.2, zI z3.2, .un, .un, .un, .un, .un, .un, .un, .un, .un, .un, .un, .un, .un, .un, .un, .un, .un, .un, .un, .un, .un, .un, .un]) (sSet (mof (b2 (vf 2 rfl) (mfz (cN (x1s (i := 1) rfl rfl (x1 (b2 rfl (vf 2 rfl) rfl) x0)) rfl rfl (Std.e__law_take (s := z2.1) (most := ((13 : Int) - z2.2)) h.1 :) rfl)) rfl)) rfl) h.2 (fun z3 h => sqB (ctx := fun (z4 : (Std.Stm × (List (List Int)))) => [.fz (D.scr v_script), .ow (Std.eStm z4.1), zI z2.2, zI z3.2, .ow ((eL (eL D.int)) z4.2), .un, .un, .un, .un, .un, .un, .un, .un, .un, .un, .un, .un, .un, .un, .un, .un, .un, .un, .un, .un, .un, .un]) (sSetO (cN (x1s (i := 1) rfl rfl (x1 (vf 3 rfl) x0)) rfl rfl (e__law_crowds (v_stream_here := z3.1) (v_stands := z3.2) h.1 :) rfl) rfl) h.2 (fun z4 h => sqB (ctx := fun (v_goes_here_5 : (List (List Way))) => [.fz (D.scr v_script), .ow (Std.eStm z4.1), zI z2.2, zI z3.2, .ow ((eL (eL D.int)) z4.2), .ow ((eL (eL eWay)) v_goes_here_5), .un, .un, .un, .un, .un, .un, .un, .un, .un, .un, .un, .un, .un, .un, .un, .un, .un, .un, .un, .un, .un]) (sSetO (repO (F := (eL eWay)) (xs := ([([] : List Way)] : List (List Way))) (mfz (mlst (a1 (mfz (mlst a0)) a0))) (vf 3 rfl) h.1) rfl) h.2 (fun v_goes_here_5 h => sq (sFrz (i := 4) rfl (show _ = [.fz (D.scr v_script), .ow (Std.eStm z4.1), zI z2.2, zI z3.2, .fz ((eL (eL D.int)) z4.2), .ow ((eL (eL eWay)) v_goes_here_5), .un, .un, .un, .un, .un, .un, .un, .un, .un, .un, .un, .un, .un, .un, .un, .un, .un, .un, .un, .un, .un] from rfl)) (sqB (ctx := fun (z13 : (Std.Stm × (List (List Way)))) => [.fz (D.scr v_script), .ow (Std.eStm z13.1), zI z2.2, zI z3.2, .fz ((eL (eL D.int)) z4.2), .ow ((eL (eL eWay)) z13.2), .un, .un, .un, .un, .un, .un, .un, .un, .un, .un, .un, .un, .un, .un, .un, .un, .un, .un, .un, .un, .un]) (forN (F := (eL D.int)) (ctx := fun (z6 : (Std.Stm × (List (List Way)))) => [.fz (D.scr v_script), .ow (Std.eStm z6.1), zI z2.2, zI z3.2, .fz ((eL (eL D.int)) z4.2), .ow ((eL (eL eWay)) z6.2), .un, .un, .un, .un, .un, .un, .un, .un, .un, .un, .un, .un, .un, .un, .un, .un, .un, .un, .un, .un, .un]) (i_L (F := (eL D.int)) (vf 4 rfl)) h.1 (fun z6 xv7 h => ⟨_, rfl, sqB (ctx := fun (z8 : (Std.Stm × (List Int))) => [.fz (D.scr v_script), .ow (Std.eStm z8.1), zI z2.2, zI z3.2, .fz ((eL (eL D.int)) z4.2), .ow ((eL (eL eWay)) z6.2), zJ xv7, .un, .un, .un, .un, .un, .un, .un, .un, .un, .un, .un, .ow ((eL D.int) z8.2), .un, .un, .un, .un, .un, .un, .un, .un]) (sSetO (cN (x1s (i := 1) rfl rfl (x1 (vf 6 rfl) x0)) rfl rfl (e__law_ring (v_stream_here := z6.1) (v_crowd := xv7) h.1 :) rfl) rfl) h.2 (fun z8 h => sq (sFrz (i := 18) rfl (show _ = [.fz (D.scr v_script), .ow (Std.eStm z8.1), zI z2.2, zI z3.2, .fz ((eL (eL D.int)) z4.2), .ow ((eL (eL eWay)) z6.2), zJ xv7, .un, .un, .un, .un, .un, .un, .un, .un, .un, .un, .un, zJ z8.2, .un, .un, .un, .un, .un, .un, .un, .un] from rfl)) (sqB (ctx := fun (z12 : (Std.Stm × (List (List Way)))) => [.fz (D.scr v_script), .ow (Std.eStm z12.1), zI z2.2, zI z3.2, .fz ((eL (eL D.int)) z4.2), .ow ((eL (eL eWay)) z12.2), zJ xv7, .un, .un, .un, .un, .un, .un, .un, .un, .un, .un, .un, zJ z8.2, .un, .un, .un, .un, .un, .un, .un, .un]) (S := fun _ => True) (forN (F := D.int) (ctx := fun (z9 : (Std.Stm × (List (List Way)))) => [.fz (D.scr v_script), .ow (Std.eStm z9.1), zI z2.2, zI z3.2, .fz ((eL (eL D.int)) z4.2), .ow ((eL (eL eWay)) z9.2), zJ xv7, .un, .un, .un, .un, .un, .un, .un, .un, .un, .un, .un, zJ z8.2, .un, .un, .un, .un, .un, .un, .un, .un]) (i_L (F := D.int) (vf 6 rfl)) h (fun z9 xv10 h => ⟨_, rfl, sqB (ctx := fun (z11 : (Std.Stm × (List (List Way)))) => [.fz (D.scr v_script), .ow (Std.eStm z11.1), zI z2.2, zI z3.2, .fz ((eL (eL D.int)) z4.2), .ow ((eL (eL eWay)) z11.2), zJ xv7, .un, .un, .un, .un, .un, .un, .un, .un, .un, .un, .un, zJ z8.2, zI xv10, .un, .un, .un, .un, .un, .un, .un]) (S := fun _ => True) (sPutO (i := 5) (F := (eL eWay)) (xs := z9.2) (v := (t__law_goes z9.1 xv7 z8.2 xv10).1) (mfz (cN (x1s (i := 1) rfl rfl (x1 (vf 6 rfl) (x1 (vf 18 rfl) (x1 (vf 19 rfl) x0)))) rfl rfl (e__law_goes (v_stream_here := z9.1) (v_crowd := xv7) (v_ring_here := z8.2) (v_stand := xv10) h.1 :) rfl)) (vf 19 rfl) rfl rfl h.2 rfl) trivial (fun z11 _ => sq (sKill (show _ = [.fz (D.scr v_script), .ow (Std.eStm z11.1), zI z2.2, zI z3.2, .fz ((eL (eL D.int)) z4.2), .ow ((eL (eL eWay)) z11.2), zJ xv7, .un, .un, .un, .un, .un, .un, .un, .un, .un, .un, .un, zJ z8.2, .un, .un, .un, .un, .un, .un, .un, .un] from rfl)) rfl)⟩)) trivial (fun z12 _ => sq (sKill (show _ = [.fz (D.scr v_script), .ow (Std.eStm z12.1), zI z2.2, zI z3.2, .fz ((eL (eL D.int)) z4.2), .ow ((eL (eL eWay)) z12.2), .un, .un, .un, .un, .un, .un, .un, .un, .un, .un, .un, .un, .un, .un, .un, .un, .un, .un, .un, .un, .un] from rfl)) rfl)))⟩)) h.2 (fun z13 h => sqB (ctx := fun (v_row_14 : (List Line)) => [.fz (D.scr v_script), .ow (Std.eStm z13.1), zI z2.2, zI z3.2, .fz ((eL (eL D.int)) z4.2), .ow ((eL (eL eWay)) z13.2), .un, .ow ((eL eLine) v_row_14), .un, .un, .un, .un, .un, .un, .un, .un, .un, .un, .un, .un, .un, .un, .un, .un, .un, .un, .un]) (sSetO (mlst a0) rfl) h (fun v_row_14 h => sqB (ctx := fun (z19 : (Std.Stm × (List Line))) => [.fz (D.scr v_script), .ow (Std.eStm z19.1), zI z2.2, zI z3.2, .fz ((eL (eL D.int)) z4.2), .ow ((eL (eL eWay)) z13.2), .un, .ow ((eL eLine) z19.2), .un, .un, .un, .un, .un, .un, .un, .un, .un, .un, .un, .un, .un, .un, .un, .un, .un, .un, .un]) (forN (F := D.int) (ctx := fun (z15 : (Std.Stm × (List Line))) => [.fz (D.scr v_script), .ow (Std.eStm z15.1), zI z2.2, zI z3.2, .fz ((eL (eL D.int)) z4.2), .ow ((eL (eL eWay)) z13.2), .un, .ow ((eL eLine) z15.2), .un, .un, .un, .un, .un, .un, .un, .un, .un, .un, .un, .un, .un, .un, .un, .un, .un, .un, .un]) (i_r1 (a1 (vf 2 rfl) a0) h.1) h.2.1 (fun z15 xv16 h => ⟨_, rfl, sqB (ctx := fun (z17 : (Std.Stm × (Int × Str))) => [.fz (D.scr v_script), .ow (Std.eStm z17.1), zI z2.2, zI z3.2, .fz ((eL (eL D.int)) z4.2), .ow ((eL (eL eWay)) z13.2), .un, .ow ((eL eLine) z15.2), zI xv16, .un, .un, .un, .un, .un, .un, .un, .un, .un, .un, .un, .fz ((eT2 D.int D.str) z17.2), .un, .un, .un, .un, .un, .un]) (sSet (mof (b2 (mfz (mlst (a1 (mtup (a1 rfl (a1 rfl a0))) (a1 (mtup (a1 rfl (a1 rfl a0))) (a1 (mtup (a1 rfl (a1 rfl a0))) a0))))) (mfz (cN (x1s (i := 1) rfl rfl (x1 rfl x0)) rfl rfl (Std.e__law_take (s := z15.1) (most := (3 : Int)) (show 0 < ((3 : Int)) by decide) :) rfl)) (o_ixL (F := (eT2 D.int D.str)) (xs := ([((0 : Int), ("" : Str)), ((8 : Int), ("stay" : Str)), ((9 : Int), ("skip" : Str))] : List (Int × Str))) h.1))) rfl) h.2 (fun z17 h => sqB (ctx := fun (z18 : (Std.Stm × (List Line))) => [.fz (D.scr v_script), .ow (Std.eStm z18.1), zI z2.2, zI z3.2, .fz ((eL (eL D.int)) z4.2), .ow ((eL (eL eWay)) z13.2), .un, .ow ((eL eLine) z18.2), zI xv16, .un, .un, .un, .un, .un, .un, .un, .un, .un, .un, .un, .fz ((eT2 D.int D.str) z17.2), .un, .un, .un, .un, .un, .un]) (S := fun _ => True) (sApp (i := 7) (F := eLine) (xs := z15.2) (v := (([(mkq (((1 : Int) + (Std.t__law_take z17.1 ((5 : Int))).1), (1 : Int)))] : List Rat), (0 : Rat), z17.2.1, z17.2.2)) (mtup (a1 (mfz (mlst (a1 (cQ (p := (((1 : Int) + (Std.t__law_take z17.1 ((5 : Int))).1), (1 : Int))) (mtup (a1 (b2 rfl (mfz (cN (x1s (i := 1) rfl rfl (x1 rfl x0)) rfl rfl (Std.e__law_take (s := z17.1) (most := (5 : Int)) (show 0 < ((5 : Int)) by decide) :) rfl)) rfl) (a1 rfl a0))) h.1) a0))) (a1 (mtup (a1 rfl (a1 rfl a0))) (a1 (b2 (vf 20 rfl) rfl rfl) (a1 (b2 (vf 20 rfl) rfl rfl) a0))))) ⟨_, rfl⟩ rfl h.2 rfl) trivial (fun z18 _ => sq (sKill (show _ = [.fz (D.scr v_script), .ow (Std.eStm z18.1), zI z2.2, zI z3.2, .fz ((eL (eL D.int)) z4.2), .ow ((eL (eL eWay)) z13.2), .un, .ow ((eL eLine) z18.2), .un, .un, .un, .un, .un, .un, .un, .un, .un, .un, .un, .un, .un, .un, .un, .un, .un, .un, .un] from rfl)) rfl))⟩)) h.2.2 (fun z19 h => sqB (ctx := fun (z24 : (Std.Stm × (List Int))) => [.fz (D.scr v_script), .ow (Std.eStm z24.1), zI z2.2, zI z3.2, .fz ((eL (eL D.int)) z4.2), .ow ((eL (eL eWay)) z13.2), .un, .ow ((eL eLine) z19.2), .un, zJ z24.2, .un, .un, .un, .un, .un, .un, .un, .un, .un, .un, .un, .un, .un, .un, .un, .un, .un]) (sSet (mof (b2 (mfz (lrg1 (vf 2 rfl) h.1)) (mfz (lcSt (F := D.int) (G := D.int) (p := (fun (xv20 : Int) (s21 : Std.Stm) => (true, s21))) (φ := (fun (xv20 : Int) (s21 : Std.Stm) => ((Std.t__law_take s21 z2.2).1, (Std.t__law_take s21 z2.2).2))) (S := (fun (xv20 : Int) (s21 : Std.Stm) => ((0 < z2.2)))) (ctx := fun s_ => [.fz (D.scr v_script), .ow (Std.eStm s_), zI z2.2, zI z3.2, .fz ((eL (eL D.int)) z4.2), .ow ((eL (eL eWay)) z13.2), .un, .ow ((eL eLine) z19.2), .un, .un, .un, .un, .un, .un, .un, .un, .un, .un, .un, .un, .un, .un, .un, .un, .un, .un, .un]) (ctx9 := fun s_ => [.fz (D.scr v_script), .ow (Std.eStm s_), zI z2.2, zI z3.2, .fz ((eL (eL D.int)) z4.2), .ow ((eL (eL eWay)) z13.2), .un, .ow ((eL eLine) z19.2), .un, .un, .un, .un, .un, .un, .un, .un, .un, .un, .un, .un, .un, .un, .un, .un, .un, .un, .un]) (s := z19.1) (i_r1 (a1 (b2 (vf 3 rfl) (vf 2 rfl) rfl) a0) h.2.1) rfl h.2.2.1 (fun xv20 s21 hs22 => ⟨fun s_ => [.fz (D.scr v_script), .ow (Std.eStm s_), zI z2.2, zI z3.2, .fz ((eL (eL D.int)) z4.2), .ow ((eL (eL eWay)) z13.2), .un, .ow ((eL eLine) z19.2), zI xv20, .un, .un, .un, .un, .un, .un, .un, .un, .un, .un, .un, .un, .un, .un, .un, .un, .un, .un], rfl, rfl, fun _ => rfl, fun hc23 => mfz (cN (x1s (i := 1) rfl rfl (x1 (vf 2 rfl) x0)) rfl rfl (Std.e__law_take (s := s21) (most := z2.2) hs22 :) rfl)⟩) h.2.2.2.1 (fun _ => rfl))) (o_addL (F := D.int) (xs := (rangeI 0 z2.2)) (ys := (lcS (fun (xv20 : Int) (s21 : Std.Stm) => (true, s21)) (fun (xv20 : Int) (s21 : Std.Stm) => ((Std.t__law_take s21 z2.2).1, (Std.t__law_take s21 z2.2).2)) (rangeI 0 ((z3.2 - z2.2))) z19.1).1) h.2.2.2.2.1))) rfl) h.2.2.2.2.2 (fun z24 h => sqB (ctx := fun (z29 : (Std.Stm × (List Stand))) => [.fz (D.scr v_script), .ow (Std.eStm z29.1), zI z2.2, zI z3.2, .fz ((eL (eL D.int)) z4.2), .ow ((eL (eL eWay)) z13.2), .un, .ow ((eL eLine) z19.2), .un, zJ z24.2, .ow ((eL eStand) z29.2), .un, .un, .un, .un, .un, .un, .un, .un, .un, .un, .un, .un, .un, .un, .un, .un]) (sSetO (lcSt (F := D.int) (G := eStand) (p := (fun (xv25 : Int) (s26 : Std.Stm) => (true, s26))) (φ := (fun (xv25 : Int) (s26 : Std.Stm) => (((ix z24.2 xv25), (mkq (((1 : Int) + (Std.t__law_take s26 ((5 : Int))).1), (1 : Int))), (ix z13.2 xv25)), (Std.t__law_take s26 ((5 : Int))).2))) (S := (fun (xv25 : Int) (s26 : Std.Stm) => (((InB z24.2.length xv25) ∧ (IsQ (((1 : Int) + (Std.t__law_take s26 ((5 : Int))).1), (1 : Int))) ∧ (InB z13.2.length xv25))))) (ctx := fun s_ => [.fz (D.scr v_script), .ow (Std.eStm s_), zI z2.2, zI z3.2, .fz ((eL (eL D.int)) z4.2), .ow ((eL (eL eWay)) z13.2), .un, .ow ((eL eLine) z19.2), .un, zJ z24.2, .un, .un, .un, .un, .un, .un, .un, .un, .un, .un, .un, .un, .un, .un, .un, .un, .un]) (ctx9 := fun s_ => [.fz (D.scr v_script), .ow (Std.eStm s_), zI z2.2, zI z3.2, .fz ((eL (eL D.int)) z4.2), .ow ((eL (eL eWay)) z13.2), .un, .ow ((eL eLine) z19.2), .un, zJ z24.2, .un, .un, .un, .un, .un, .un, .un, .un, .un, .un, .un, .un, .un, .un, .un, .un, .un]) (s := z24.1) (i_r1 (a1 (vf 3 rfl) a0) h.1) rfl h.2.1 (fun xv25 s26 hs27 => ⟨fun s_ => [.fz (D.scr v_script), .ow (Std.eStm s_), zI z2.2, zI z3.2, .fz ((eL (eL D.int)) z4.2), .ow ((eL (eL eWay)) z13.2), .un, .ow ((eL eLine) z19.2), .un, zJ z24.2, .un, .un, .un, .un, .un, .un, .un, .un, .un, .un, .un, .un, zI xv25, .un, .un, .un, .un], rfl, rfl, fun _ => rfl, fun hc28 => mtup (a1 (b2 (vf 9 rfl) (vf 22 rfl) (o_ixL (F := D.int) (xs := z24.2) hs27.1)) (a1 (cQ (p := (((1 : Int) + (Std.t__law_take s26 ((5 : Int))).1), (1 : Int))) (mtup (a1 (b2 rfl (mfz (cN (x1s (i := 1) rfl rfl (x1 rfl x0)) rfl rfl (Std.e__law_take (s := s26) (most := (5 : Int)) (show 0 < ((5 : Int)) by decide) :) rfl)) rfl) (a1 rfl a0))) hs27.2.1) (a1 (pk (i := 5) (F := (eL eWay)) (xs := z13.2) rfl (vf 22 rfl) rfl hs27.2.2) a0)))⟩) h.2.2.1 (fun _ => rfl)) rfl) h.2.2.2 (fun z29 h => sqB (ctx := fun (v_counts_30 : (List Int)) => [.fz (D.scr v_script), .ow (Std.eStm z29.1), zI z2.2, zI z3.2, .fz ((eL (eL D.int)) z4.2), .ow ((eL (eL eWay)) z13.2), .un, .ow ((eL eLine) z19.2), .un, zJ z24.2, .ow ((eL eStand) z29.2), .ow ((eL D.int) v_counts_30), .un, .un, .un, .un, .un, .un, .un, .un, .un, .un, .un, .un, .un, .un, .un]) (sSetO (repO (F := D.int) (xs := ([(0 : Int)] : List Int)) (mfz (mlst (a1 rfl a0))) (vf 3 rfl) h.1) rfl) h.2 (fun v_counts_30 h => sqB (ctx := fun (z35 : (Std.Stm × (List Int))) => [.fz (D.scr v_script), .ow (Std.eStm z35.1), zI z2.2, zI z3.2, .fz ((eL (eL D.int)) z4.2), .ow ((eL (eL eWay)) z13.2), .un, .ow ((eL eLine) z19.2), .un, zJ z24.2, .ow ((eL eStand) z29.2), .ow ((eL D.int) z35.2), .un, .un, .un, .un, .un, .un, .un, .un, .un, .un, .un, .un, .un, .un, .un]) (forN (F := D.int) (ctx := fun (z31 : (Std.Stm × (List Int))) => [.fz (D.scr v_script), .ow (Std.eStm z31.1), zI z2.2, zI z3.2, .fz ((eL (eL D.int)) z4.2), .ow ((eL (eL eWay)) z13.2), .un, .ow ((eL eLine) z19.2), .un, zJ z24.2, .ow ((eL eStand) z29.2), .ow ((eL D.int) z31.2), .un, .un, .un, .un, .un, .un, .un, .un, .un, .un, .un, .un, .un, .un, .un]) (i_r1 (a1 (b2 rfl (mfz (cN (x1s (i := 1) rfl rfl (x1 rfl x0)) rfl rfl (Std.e__law_take (s := z29.1) (most := (8 : Int)) (show 0 < ((8 : Int)) by decide) :) rfl)) rfl) a0) h.1) h.2.1 (fun z31 xv32 h => ⟨_, rfl, sqB (ctx := fun (z33 : (Std.Stm × Int)) => [.fz (D.scr v_script), .ow (Std.eStm z33.1), zI z2.2, zI z3.2, .fz ((eL (eL D.int)) z4.2), .ow ((eL (eL eWay)) z13.2), .un, .ow ((eL eLine) z19.2), zI xv32, zJ z24.2, .ow ((eL eStand) z29.2), .ow ((eL D.int) z31.2), .un, .un, .un, .un, .un, .un, .un, .un, .un, zI z33.2, .un, .un, .un, .un, .un]) (sSet (cN (x1s (i := 1) rfl rfl (x1 (vf 3 rfl) x0)) rfl rfl (Std.e__law_take (s := z31.1) (most := z3.2) h.1 :) rfl) rfl) h.2 (fun z33 h => sqB (ctx := fun (v_counts_34 : (List Int)) => [.fz (D.scr v_script), .ow (Std.eStm z33.1), zI z2.2, zI z3.2, .fz ((eL (eL D.int)) z4.2), .ow ((eL (eL eWay)) z13.2), .un, .ow ((eL eLine) z19.2), zI xv32, zJ z24.2, .ow ((eL eStand) z29.2), .ow ((eL D.int) v_counts_34), .un, .un, .un, .un, .un, .un, .un, .un, .un, zI z33.2, .un, .un, .un, .un, .un]) (S := fun _ => True) (sPutO (i := 11) (F := D.int) (xs := z31.2) (v := ((ix z31.2 z33.2) + (1 : Int))) (b2 (pk (i := 11) (F := D.int) (xs := z31.2) rfl (vf 21 rfl) rfl h.1) rfl rfl) (vf 21 rfl) rfl rfl h.2 rfl) trivial (fun v_counts_34 _ => sq (sKill (show _ = [.fz (D.scr v_script), .ow (Std.eStm z33.1), zI z2.2, zI z3.2, .fz ((eL (eL D.int)) z4.2), .ow ((eL (eL eWay)) z13.2), .un, .ow ((eL eLine) z19.2), .un, zJ z24.2, .ow ((eL eStand) z29.2), .ow ((eL D.int) v_counts_34), .un, .un, .un, .un, .un, .un, .un, .un, .un, .un, .un, .un, .un, .un, .un] from rfl)) rfl))⟩)) h.2.2 (fun z35 h => sq (sFrz (i := 7) rfl (show _ = [.fz (D.scr v_script), .ow (Std.eStm z35.1), zI z2.2, zI z3.2, .fz ((eL (eL D.int)) z4.2), .ow ((eL (eL eWay)) z13.2), .un, .fz ((eL eLine) z19.2), .un, zJ z24.2, .ow ((eL eStand) z29.2), .ow ((eL D.int) z35.2), .un, .un, .un, .un, .un, .un, .un, .un, .un, .un, .un, .un, .un, .un, .un] from rfl)) (sq (sFrz (i := 10) rfl (show _ = [.fz (D.scr v_script), .ow (Std.eStm z35.1), zI z2.2, zI z3.2, .fz ((eL (eL D.int)) z4.2), .ow ((eL (eL eWay)) z13.2), .un, .fz ((eL eLine) z19.2), .un, zJ z24.2, .fz ((eL eStand) z29.2), .ow ((eL D.int) z35.2), .un, .un, .un, .un, .un, .un, .un, .un, .un, .un, .un, .un, .un, .un, .un] from rfl)) (sq (sFrz (i := 11) rfl (show _ = [.fz (D.scr v_script), .ow (Std.eStm z35.1), zI z2.2, zI z3.2, .fz ((eL (eL D.int)) z4.2), .ow ((eL (eL eWay)) z13.2), .un, .fz ((eL eLine) z19.2), .un, zJ z24.2, .fz ((eL eStand) z29.2), zJ z35.2, .un, .un, .un, .un, .un, .un, .un, .un, .un, .un, .un, .un, .un, .un, .un] from rfl)) (sqB (ctx := fun (v_net_36 : Net) => [.fz (D.scr v_script), .ow (Std.eStm z35.1), zI z2.2, zI z3.2, .fz ((eL (eL D.int)) z4.2), .ow ((eL (eL eWay)) z13.2), .un, .fz ((eL eLine) z19.2), .un, zJ z24.2, .fz ((eL eStand) z29.2), zJ z35.2, .fz (eNet v_net_36), .un, .un, .un, .un, .un, .un, .un, .un, .un, .un, .un, .un, .un, .un]) (sSet (cN (x1 (vf 7 rfl) (x1 (vf 10 rfl) (x1 (mtup (a1 rfl (a1 (vf 11 rfl) a0))) x0))) rfl rfl (Net.e_made_net_ (ls := z19.2) (ss := z29.2) (c := (("shut" : Str), (Sum.inr z35.2 : Num))) h.1 :) rfl) rfl) h.2 (fun v_net_36 h => sqB (ctx := fun (v_kept_37 : Net) => [.fz (D.scr v_script), .ow (Std.eStm z35.1), zI z2.2, zI z3.2, .fz ((eL (eL D.int)) z4.2), .ow ((eL (eL eWay)) z13.2), .un, .fz ((eL eLine) z19.2), .un, zJ z24.2, .fz ((eL eStand) z29.2), zJ z35.2, .fz (eNet v_net_36), .fz (eNet v_kept_37), .un, .un, .un, .un, .un, .un, .un, .un, .un, .un, .un, .un, .un]) (sSet (cN (x1 (vf 7 rfl) (x1 (vf 10 rfl) (x1 (mtup (a1 rfl (a1 (vf 11 rfl) a0))) x0))) rfl rfl (Net.e_made_net_ (ls := z19.2) (ss := z29.2) (c := (("shut" : Str), (Sum.inr z35.2 : Num))) h.1 :) rfl) rfl) h.2 (fun v_kept_37 h => sqB (ctx := fun (v_due_44 : (List ((List Int) × Int))) => [.fz (D.scr v_script), .ow (Std.eStm z35.1), zI z2.2, zI z3.2, .fz ((eL (eL D.int)) z4.2), .ow ((eL (eL eWay)) z13.2), .un, .fz ((eL eLine) z19.2), .un, zJ z24.2, .fz ((eL eStand) z29.2), zJ z35.2, .fz (eNet v_net_36), .fz (eNet v_kept_37), .ow ((eL (eT2 (eL D.int) D.int)) v_due_44), .un, .un, .un, .un, .un, .un, .un, .un, .un, .un, .un, .un]) (sSetO (t_sortLI (a1 (mfz (lcM (F := (eL D.int)) (G := (eT2 (eL D.int) D.int)) (φ := fun (xv38 : (List Int)) => (xv38, ((xv38.map (fun (xv39 : Int) => (ix z35.2 xv39)))).sum)) (ρ1 := [.fz (D.scr v_script), .ow (Std.eStm z35.1), zI z2.2, zI z3.2, .fz ((eL (eL D.int)) z4.2), .ow ((eL (eL eWay)) z13.2), .un, .fz ((eL eLine) z19.2), .un, zJ z24.2, .fz ((eL eStand) z29.2), zJ z35.2, .fz (eNet v_net_36), .fz (eNet v_kept_37), .un, .un, .un, .un, .un, .un, .un, .un, .un, .un, .un, .un, .un]) (i_L (F := (eL D.int)) (vf 4 rfl)) rfl (fun xv38 hx42 => ⟨_, rfl, rfl, _, mtup (a1 (vf 6 rfl) (a1 (c1 (a1 (mfz (lcM (F := D.int) (G := D.int) (φ := fun (xv39 : Int) => (ix z35.2 xv39)) (ρ1 := [.fz (D.scr v_script), .ow (Std.eStm z35.1), zI z2.2, zI z3.2, .fz ((eL (eL D.int)) z4.2), .ow ((eL (eL eWay)) z13.2), zJ xv38, .fz ((eL eLine) z19.2), .un, zJ z24.2, .fz ((eL eStand) z29.2), zJ z35.2, .fz (eNet v_net_36), .fz (eNet v_kept_37), .un, .un, .un, .un, .un, .un, .un, .un, .un, .un, .un, .un, .un]) (i_L (F := D.int) (vf 6 rfl)) rfl (fun xv39 hx40 => ⟨_, rfl, rfl, _, pk (i := 11) (F := D.int) (xs := z35.2) rfl (vf 22 rfl) rfl ((h.1 xv38 hx42).1 xv39 hx40), rfl⟩) (h.1 xv38 hx42).2 rfl)) a0) o_sum) a0)), rfl⟩) h.2.1 rfl)) a0)) rfl) h.2.2 (fun v_due_44 h => sqB (ctx := fun (v_told_45 : (List ((List Int) × Int))) => [.fz (D.scr v_script), .ow (Std.eStm z35.1), zI z2.2, zI z3.2, .fz ((eL (eL D.int)) z4.2), .ow ((eL (eL eWay)) z13.2), .un, .fz ((eL eLine) z19.2), .un, zJ z24.2, .fz ((eL eStand) z29.2), zJ z35.2, .fz (eNet v_net_36), .fz (eNet v_kept_37), .ow ((eL (eT2 (eL D.int) D.int)) v_due_44), .dp (.l (.t (.cons (.l .z) (.cons .z .nil)))) ((eL (eT2 (eL D.int) D.int)) v_told_45), .un, .un, .un, .un, .un, .un, .un, .un, .un, .un, .un]) (sSetD (cN (x1 (vf 12 rfl) x0) rfl rfl (e_crowds__o (v_net := v_net_36) h.1 :) rfl) rfl) h.2 (fun v_told_45 h => sq (sFrz (i := 14) rfl (show _ = [.fz (D.scr v_script), .ow (Std.eStm z35.1), zI z2.2, zI z3.2, .fz ((eL (eL D.int)) z4.2), .ow ((eL (eL eWay)) z13.2), .un, .fz ((eL eLine) z19.2), .un, zJ z24.2, .fz ((eL eStand) z29.2), zJ z35.2, .fz (eNet v_net_36), .fz (eNet v_kept_37), .fz ((eL (eT2 (eL D.int) D.int)) v_due_44), .dp (.l (.t (.cons (.l .z) (.cons .z .nil)))) ((eL (eT2 (eL D.int) D.int)) v_told_45), .un, .un, .un, .un, .un, .un, .un, .un, .un, .un, .un] from rfl)) (sq (sFrz (i := 5) rfl (show _ = [.fz (D.scr v_script), .ow (Std.eStm z35.1), zI z2.2, zI z3.2, .fz ((eL (eL D.int)) z4.2), .fz ((eL (eL eWay)) z13.2), .un, .fz ((eL eLine) z19.2), .un, zJ z24.2, .fz ((eL eStand) z29.2), zJ z35.2, .fz (eNet v_net_36), .fz (eNet v_kept_37), .fz ((eL (eT2 (eL D.int) D.int)) v_due_44), .dp (.l (.t (.cons (.l .z) (.cons .z .nil)))) ((eL (eT2 (eL D.int) D.int)) v_told_45), .un, .un, .un, .un, .un, .un, .un, .un, .un, .un, .un] from rfl)) (sqIf (t_th (i := 15) rfl rfl (orr (nt (tst (isV (vf 15 rfl) isi_ll))) (fun hc47 => orr (tst (b2 (vf 15 rfl) (vf 14 rfl) ((o_ne (F := (eL (eT2 (eL D.int) D.int))) (x := v_told_45) (y := v_due_44) (gL (gT2 (gL gI) (gI.up (by decide)))))))) (fun hc46 => tst (b2 (vf 12 rfl) (vf 13 rfl) ((o_ney (F := eNet) (x := v_net_36) (y := v_kept_37) yNet ((h.1 hc47) hc46).1 ((h.1 hc47) hc46).2.1 ((h.1 hc47) hc46).2.2)))))) (⟨(.inl rfl), (by first | rfl | simp [thG, iNoL, Std.eStm, D.noL, D.noLs]), (.inl rfl), (.inl rfl), (.inl rfl), (.inl rfl), trivial, (.inl rfl), trivial, (.inl rfl), (.inl rfl), (.inl rfl), (.inl rfl), (.inl rfl), (.inl rfl), trivial, trivial, trivial, trivial, trivial, trivial, trivial, trivial, trivial, trivial, trivial, trivial, trivial⟩) trivial rfl) (fun _ => sqRet (mof rfl) (jr_mk rfl)) (fun hc => bdh (h.2 hc) (fun h => sq rfl (sqB (ctx := fun (v_told_48 : (List ((List Int) × Int))) => [.fz (D.scr v_script), .ow (Std.eStm z35.1), zI z2.2, zI z3.2, .fz ((eL (eL D.int)) z4.2), .fz ((eL (eL eWay)) z13.2), .un, .fz ((eL eLine) z19.2), .un, zJ z24.2, .fz ((eL eStand) z29.2), zJ z35.2, .fz (eNet v_net_36), .fz (eNet v_kept_37), .fz ((eL (eT2 (eL D.int) D.int)) v_due_44), .dp (.l (.t (.cons (.l .z) (.cons .z .nil)))) ((eL (eT2 (eL D.int) D.int)) v_told_48), .un, .un, .un, .un, .un, .un, .un, .un, .un, .un, .un]) (sDeepLT (i := 15) (F := D.int) (G := D.int) (xs := v_told_45) (v := (12 : Int)) rfl rfl rfl rfl rfl rfl rfl rfl rfl rfl h.1 h.2.1 rfl) h.2.2 (fun v_told_48 h => sqIf (orr (tst (b2 (mfz (cN (x1 (vf 12 rfl) x0) rfl rfl (e_crowds__o (v_net := v_net_36) h.1 :) rfl)) (vf 14 rfl) ((o_ne (F := (eL (eT2 (eL D.int) D.int))) (x := (t_crowds__o v_net_36)) (y := v_due_44) (gL (gT2 (gL gI) (gI.up (by decide)))))))) (fun hc49 => tst (b2 (vf 12 rfl) (vf 13 rfl) ((o_ney (F := eNet) (x := v_net_36) (y := v_kept_37) yNet (h.2.1 hc49).1 (h.2.1 hc49).2.1 (h.2.1 hc49).2.2))))) (fun _ => sqRet (mof rfl) (jr_mk rfl)) (fun hc => bdh (h.2.2 hc) (fun h => sq rfl (sqB (ctx := fun (v_half_53 : (List Stand)) => [.fz (D.scr v_script), .ow (Std.eStm z35.1), zI z2.2, zI z3.2, .fz ((eL (eL D.int)) z4.2), .fz ((eL (eL eWay)) z13.2), .un, .fz ((eL eLine) z19.2), .un, zJ z24.2, .fz ((eL eStand) z29.2), zJ z35.2, .fz (eNet v_net_36), .fz (eNet v_kept_37), .fz ((eL (eT2 (eL D.int) D.int)) v_due_44), .dp (.l (.t (.cons (.l .z) (.cons .z .nil)))) ((eL (eT2 (eL D.int) D.int)) v_told_48), .ow ((eL eStand) v_half_53), .un, .un, .un, .un, .un, .un, .un, .un, .un, .un]) (sSetO (lcM (F := eStand) (G := eStand) (φ := fun (xv50 : Stand) => (xv50.1, xv50.2.1, (t__law_halved xv50.2.2))) (ρ1 := [.fz (D.scr v_script), .ow (Std.eStm z35.1), zI z2.2, zI z3.2, .fz ((eL (eL D.int)) z4.2), .fz ((eL (eL eWay)) z13.2), .un, .fz ((eL eLine) z19.2), .un, zJ z24.2, .fz ((eL eStand) z29.2), zJ z35.2, .fz (eNet v_net_36), .fz (eNet v_kept_37), .fz ((eL (eT2 (eL D.int) D.int)) v_due_44), .dp (.l (.t (.cons (.l .z) (.cons .z .nil)))) ((eL (eT2 (eL D.int) D.int)) v_told_48), .un, .un, .un, .un, .un, .un, .un, .un, .un, .un, .un]) (i_L (F := eStand) (vf 10 rfl)) rfl (fun xv50 hx51 => ⟨_, rfl, rfl, _, mtup (a1 (vf 24 rfl) (a1 (vf 25 rfl) (a1 (mfz (cN (x1 (vf 26 rfl) x0) rfl rfl (e__law_halved (v_ways := xv50.2.2) (h.1 xv50 hx51) :) rfl)) a0))), rfl⟩) h.2.1 rfl) rfl) h.2.2 (fun v_half_53 h => sqB (ctx := fun (v_wide_57 : (List Line)) => [.fz (D.scr v_script), .ow (Std.eStm z35.1), zI z2.2, zI z3.2, .fz ((eL (eL D.int)) z4.2), .fz ((eL (eL eWay)) z13.2), .un, .fz ((eL eLine) z19.2), .un, zJ z24.2, .fz ((eL eStand) z29.2), zJ z35.2, .fz (eNet v_net_36), .fz (eNet v_kept_37), .fz ((eL (eT2 (eL D.int) D.int)) v_due_44), .dp (.l (.t (.cons (.l .z) (.cons .z .nil)))) ((eL (eT2 (eL D.int) D.int)) v_told_48), .ow ((eL eStand) v_half_53), .ow ((eL eLine) v_wide_57), .un, .un, .un, .un, .un, .un, .un, .un, .un]) (sSetO (lcM (F := eLine) (G := eLine) (φ := fun (xv54 : Line) => (xv54.1, xv54.2.1, (0 : Int), ("" : Str))) (ρ1 := [.fz (D.scr v_script), .ow (Std.eStm z35.1), zI z2.2, zI z3.2, .fz ((eL (eL D.int)) z4.2), .fz ((eL (eL eWay)) z13.2), .un, .fz ((eL eLine) z19.2), .un, zJ z24.2, .fz ((eL eStand) z29.2), zJ z35.2, .fz (eNet v_net_36), .fz (eNet v_kept_37), .fz ((eL (eT2 (eL D.int) D.int)) v_due_44), .dp (.l (.t (.cons (.l .z) (.cons .z .nil)))) ((eL (eT2 (eL D.int) D.int)) v_told_48), .ow ((eL eStand) v_half_53), .un, .un, .un, .un, .un, .un, .un, .un, .un, .un]) (i_L (F := eLine) (vf 7 rfl)) rfl (fun xv54 hx55 => ⟨_, rfl, rfl, _, mtup (a1 (b2 (vf 23 rfl) rfl rfl) (a1 (b2 (vf 23 rfl) rfl rfl) (a1 rfl (a1 rfl a0)))), rfl⟩) h.1 rfl) rfl) h.2 (fun v_wide_57 h => sq (sFrz (i := 16) rfl (show _ = [.fz (D.scr v_script), .ow (Std.eStm z35.1), zI z2.2, zI z3.2, .fz ((eL (eL D.int)) z4.2), .fz ((eL (eL eWay)) z13.2), .un, .fz ((eL eLine) z19.2), .un, zJ z24.2, .fz ((eL eStand) z29.2), zJ z35.2, .fz (eNet v_net_36), .fz (eNet v_kept_37), .fz ((eL (eT2 (eL D.int) D.int)) v_due_44), .dp (.l (.t (.cons (.l .z) (.cons .z .nil)))) ((eL (eT2 (eL D.int) D.int)) v_told_48), .fz ((eL eStand) v_half_53), .ow ((eL eLine) v_wide_57), .un, .un, .un, .un, .un, .un, .un, .un, .un] from rfl)) (sq (sFrz (i := 17) rfl (show _ = [.fz (D.scr v_script), .ow (Std.eStm z35.1), zI z2.2, zI z3.2, .fz ((eL (eL D.int)) z4.2), .fz ((eL (eL eWay)) z13.2), .un, .fz ((eL eLine) z19.2), .un, zJ z24.2, .fz ((eL eStand) z29.2), zJ z35.2, .fz (eNet v_net_36), .fz (eNet v_kept_37), .fz ((eL (eT2 (eL D.int) D.int)) v_due_44), .dp (.l (.t (.cons (.l .z) (.cons .z .nil)))) ((eL (eT2 (eL D.int) D.int)) v_told_48), .fz ((eL eStand) v_half_53), .fz ((eL eLine) v_wide_57), .un, .un, .un, .un, .un, .un, .un, .un, .un] from rfl)) (sRet (cN (x1 (mfz (cN (x1 (vf 17 rfl) (x1 (vf 16 rfl) (x1 (mtup (a1 rfl (a1 (b2 (mfz (mlst (a1 (mtup (a1 rfl (a1 rfl a0))) a0))) (vf 3 rfl) (o_mulL (F := fq) (xs := ([(1 : Rat)] : List Rat)) h.1)) a0))) x0))) rfl rfl (Net.e_made_net_ (ls := v_wide_57) (ss := v_half_53) (c := (("open" : Str), (Sum.inl ((repI (([(1 : Rat)] : List Rat)) z3.2)) : Num))) h.2.1 :) rfl)) x0) rfl rfl (e__law_refused (v_net := ((v_wide_57, v_half_53, (("open" : Str), (Sum.inl ((repI (([(1 : Rat)] : List Rat)) z3.2)) : Num))) : Net)) h.2.2 :) rfl) (jr_mk rfl))))))))))))))))))))))))))))))))))
end K11
namespace DrL
open PySem L2 Dt Std Net Look Law Thru Turn
theorem divI_small {a b : Int} (h0 : 0 ≤ a) (h2 : 0 < b) : (Rat.divInt a b).num ≤ a ∧ (Rat.divInt a b).den ≤ b.toNat := by
  refine ⟨?_, ?_⟩
  · rw [num_div, Int.sign_eq_one_of_pos h2, Int.one_mul]
    exact Int.ediv_le_self _ h0
  · rw [den_div (by omega)]
    exact Nat.le_trans (Nat.div_le_self _ _) (by omega)
theorem smq_zero : SmQ 0 := ⟨by decide, by decide, by decide⟩
end DrL
namespace DrC
open PySem L2 Dt Std Net Look Law Thru Turn
open DrL (divI_small smq_zero)
structure PlOk (nl n : Nat) (pl : List Int) : Prop where
  len : pl.length = n
  rg : ∀ x ∈ pl, 0 ≤ x ∧ x < nl
  us : ∀ i : Nat, i < nl → (i : Int) ∈ pl
theorem made_of {pl : List Int} {nl n : Nat} {full : Bool} {ma : List Stand} (P : PlOk nl n pl) (h : AtI (fun i (s : Stand) => s.1 = ix pl (i : Int) ∧ (SmQ s.2.1 ∧ 0 < s.2.1) ∧ WaysOk n full s.2.2) n ma) : Made nl n full ma := by
  refine ⟨h.1, fun s hs => ?_, fun i hi => ?_⟩
  · obtain ⟨i, hi, e, h3, h4⟩ := h.mem hs
    have := P.rg _ (ix_mem (inB_nat (i := (i : Int)) (by omega) (by rw [P.len]; omega)))
    rw [e]
    exact ⟨this.1, this.2, h3, h4⟩
  · obtain ⟨j, hj, e⟩ := List.mem_iff_getElem.mp (P.us i hi)
    have hj' : j < n := by rw [← P.len]; exact hj
    refine ⟨ix ma (j : Int), ix_mem (inB_nat (by omega) (by rw [h.1]; omega)), ?_⟩
    rw [(h.at hj').1, ix_get hj]; exact e
def own (gr : List Int) (n : Nat) (k : Int) : List Int := (rangeI 0 (n : Int)).filter fun t => decide (ix gr t = ix gr k)
section
variable {gr : List Int} {n : Nat}
theorem own_mem {k t : Int} : t ∈ own gr n k ↔ (0 ≤ t ∧ t < n) ∧ ix gr t = ix gr k := by
  unfold own
  rw [List.mem_filter, mem_rangeI, decide_eq_true_eq]
theorem own_up (k : Int) : (own gr n k).Pairwise (· < ·) := (range_lt 0 (n : Int)).filter _
theorem fst_get {l : List Int} {x : Int} (h : x ∈ l) : ∃ q : fstI l x < l.length, l[fstI l x] = x := by
  obtain ⟨a, _⟩ := fstI_at h
  exact List.getElem?_eq_some_iff.mp a
theorem List.Nodup.getElem_inj_iff' {l : List Int} (nd : l.Nodup) {i j : Nat} (hi : i < l.length) (hj : j < l.length) : l[i] = l[j] ↔ i = j := by
  constructor
  · intro e
    rw [List.nodup_iff_pairwise_ne, List.pairwise_iff_getElem] at nd
    rcases Nat.lt_trichotomy i j with q | q | q
    · exact absurd e (nd i j hi hj q)
    · exact q
    · exact absurd e.symm (nd j i hj hi q)
  · intro e; subst e; rfl
theorem fst_nth {l : List Int} (nd : l.Nodup) {i : Nat} (hi : i < l.length) : fstI l l[i] = i := by
  obtain ⟨q, e⟩ := fst_get (List.getElem_mem hi)
  exact (List.Nodup.getElem_inj_iff' nd q hi).mp e
end
section
variable {n : Nat} {gr : List Int} {ma : List Stand} {ls : List Line} {c : Com}
end
end DrC
namespace DrD
open PySem L2 Dt Std Net Look Law Thru Turn Wide Goi
open DrC (PlOk own own_mem)
theorem begins_b {ss : List Stand} {cs : List Int} (c0 : ∀ x ∈ cs, 0 ≤ x) (i : Int) : 0 ≤ begins ss cs i ∧ begins ss cs i ≤ cs.sum := by
  unfold begins
  induction cs generalizing ss with
  | nil => simp
  | cons x r ih =>
    cases ss with
    | nil =>
      have : 0 ≤ (x :: r).sum := by
        clear ih
        have : ∀ l : List Int, (∀ y ∈ l, 0 ≤ y) → 0 ≤ l.sum := fun l => by
          induction l with
          | nil => intro _; simp
          | cons a b ih => 
            intro h
            rw [List.sum_cons]
            have := h a (by simp)
            have := ih fun y hy => h y (List.mem_cons_of_mem _ hy)
            omega
        exact this _ c0
      simpa using this
    | cons s ss =>
      have h := ih (ss := ss) fun y hy => c0 y (List.mem_cons_of_mem _ hy)
      have h0 := c0 x (by simp)
      rw [List.zip_cons_cons, List.sum_cons]
      by_cases c : s.1 = i
      · rw [List.filter_cons_of_pos (by exact decide_eq_true c), List.map_cons, List.sum_cons]
        dsimp only
        omega
      · rw [List.filter_cons_of_neg (by simpa using c)]
        omega
theorem sortP_id {l : List Way} (up : l.Pairwise fun a b => a.1 < b.1) : sortP l = l := by
  have nd : (l.map (·.1)).Nodup := by
    have q : (l.map (·.1)).Pairwise (· < ·) := by rw [List.pairwise_map]; exact up
    exact q.imp fun h => by omega
  exact (sortP_uniq nd (List.Perm.refl _) (up.imp fun h => by omega)).symm
theorem tst_id {n : Int} {full : Bool} {s : Stand} (h : WaysOk n full s.2.2) : Turn.tst (fun k => k) s = s := by
  unfold Turn.tst
  have e : sortP (s.2.2.map fun w => (w.1, w.2)) = s.2.2 := by
    rw [List.map_id']
    exact sortP_id h.up
  show (s.1, s.2.1, sortP (s.2.2.map fun w => (w.1, w.2))) = s
  rw [e]
theorem tmap_id {nl n : Nat} {full : Bool} {ma : List Stand} (M : Made nl n full ma) : tmap n (fun k => k) (fun k => k) ma = ma := by
  unfold tmap
  have : (rangeI 0 (n : Int)).map (fun k => Turn.tst (fun k => k) (ix ma k)) = (rangeI 0 (n : Int)).map fun k => ix ma k := List.map_congr_left fun k hk => by
    rw [mem_rangeI] at hk
    exact tst_id (M.st _ (M.at hk)).2.2.2
  exact this.trans (map_ix M.len)
theorem id_tn {n : Nat} : Tn n (fun k => k) (fun k => k) := ⟨fun k a b => ⟨a, b⟩, fun k a b => ⟨a, b⟩, fun _ _ _ => rfl, fun _ _ _ => rfl⟩
theorem tnum_id {α : Type} [Inhabited α] {n : Nat} {xs : List α} (h : xs.length = n) : tnum n (fun k => k) xs = xs := map_ix h
end DrD
namespace DrD
open PySem L2 Dt Std Net Look Law Thru Turn Wide Goi
open DrC (PlOk own own_mem)
end DrD
namespace K11
open PySem L2 Dt Std Net Look Law Thru Turn
open DrC (own own_mem own_up fst_get fst_nth)
open DrD (begins_b tmap_id tnum_id id_tn)
open Wide (ix_app1 ix_app2)
def nxr (r : List Int) (k : Int) : Int := ix r ((((fstI r k : Nat) : Int) + 1).fmod (r.length : Int))
theorem nxr_ok {r : List Int} {k : Int} (m : k ∈ r) : (r.length : Int) ≠ 0 ∧ InB r.length ((((fstI r k : Nat) : Int) + 1).fmod (r.length : Int)) ∧ nxr r k ∈ r := by
  have l0 : 0 < r.length := List.length_pos_of_mem m
  have ib : InB r.length ((((fstI r k : Nat) : Int) + 1).fmod (r.length : Int)) := by
    rw [Int.fmod_eq_emod_of_nonneg _ (by omega)]
    exact inB_nat (Int.emod_nonneg _ (by omega)) (Int.emod_lt_of_pos _ (by omega))
  exact ⟨by omega, ib, ix_mem ib⟩
theorem nxr_nth {r : List Int} (nd : r.Nodup) {i : Nat} (hi : i < r.length) : nxr r r[i] = r[(i + 1) % r.length]'(Nat.mod_lt _ (by omega)) := by
  unfold nxr
  rw [fst_nth nd hi, Int.fmod_eq_emod_of_nonneg _ (by omega)]
  have e2 : ((i : Int) + 1) % (r.length : Int) = (((i + 1) % r.length : Nat) : Int) := by rw [Int.natCast_emod]; rfl
  rw [e2, ix_get (Nat.mod_lt _ (by omega))]
structure Rg (n : Nat) (gr : List Int) (ma : List Stand) : Prop where
  inn : ∀ k : Int, 0 ≤ k → k < n → ∀ w ∈ (ix ma k).2.2, ix gr w.1 = ix gr k
  rg : ∀ k : Int, 0 ≤ k → k < n → ∃ r : List Int, r.Perm (own gr n k) ∧ ∀ t ∈ r, nxr r t ∈ (ix ma t).2.2.map (·.1)
section
variable {n : Nat} {gr : List Int} {ma : List Stand} {ls : List Line} {c : Com}
theorem ring_go {r : List Int} (nd : r.Nodup) (h : ∀ t ∈ r, nxr r t ∈ (ix ma t).2.2.map (·.1)) : ∀ (d i : Nat) (hi : i < r.length), Rc (ls, ma, c) r[i] (r[(i + d) % r.length]'(Nat.mod_lt _ (by omega)))
  | 0, i, hi => by
    have e : (i + 0) % r.length = i := Nat.mod_eq_of_lt hi
    have : r[(i + 0) % r.length]'(Nat.mod_lt _ (by omega)) = r[i] := by congr 1
    rw [this]; exact Rc.refl _
  | d + 1, i, hi => by
    have ih := ring_go nd h d i hi
    refine ih.snoc ?_
    have h2 : (i + d) % r.length < r.length := Nat.mod_lt _ (by omega)
    have := h _ (List.getElem_mem h2)
    rw [nxr_nth nd h2] at this
    have e : ((i + d) % r.length + 1) % r.length = (i + (d + 1)) % r.length := by
      rw [Nat.mod_add_mod]; rfl
    have e2 : r[((i + d) % r.length + 1) % r.length]'(Nat.mod_lt _ (by omega)) = r[(i + (d + 1)) % r.length]'(Nat.mod_lt _ (by omega)) := by congr 1
    rw [e2] at this
    exact this
theorem ring_rc {r : List Int} (nd : r.Nodup) (h : ∀ t ∈ r, nxr r t ∈ (ix ma t).2.2.map (·.1)) {k j : Int} (hk : k ∈ r) (hj : j ∈ r) : Rc (ls, ma, c) k j := by
  obtain ⟨a, ea⟩ := fst_get hk
  obtain ⟨b, eb⟩ := fst_get hj
  have := ring_go (ls := ls) (c := c) nd h (fstI r j + r.length - fstI r k) _ a
  have e : (fstI r k + (fstI r j + r.length - fstI r k)) % r.length = fstI r j := by
    rw [show fstI r k + (fstI r j + r.length - fstI r k) = fstI r j + r.length by omega, Nat.add_mod_right, Nat.mod_eq_of_lt b]
  have e2 : r[(fstI r k + (fstI r j + r.length - fstI r k)) % r.length]'(Nat.mod_lt _ (by omega)) = r[fstI r j] := by congr 1
  rw [e2, ea, eb] at this
  exact this
theorem own_nd {k : Int} : (own gr n k).Nodup := (own_up k).imp fun h => by omega
theorem Rg.rc (G : Rg n gr ma) {k j : Int} (hk : 0 ≤ k ∧ k < n) (hj : 0 ≤ j ∧ j < n) (h : ix gr j = ix gr k) : Rc (ls, ma, c) k j := by
  obtain ⟨r, p, hr⟩ := G.rg k hk.1 hk.2
  exact ring_rc (p.symm.nodup own_nd) hr (p.symm.subset (own_mem.mpr ⟨hk, rfl⟩)) (p.symm.subset (own_mem.mpr ⟨hj, h⟩))
theorem Rg.inv (G : Rg n gr ma) (hr : ∀ k : Int, 0 ≤ k → k < n → ∀ w ∈ (ix ma k).2.2, 0 ≤ w.1 ∧ w.1 < n) {k t : Int} (hk : 0 ≤ k ∧ k < n) (h : Rc (ls, ma, c) k t) : (0 ≤ t ∧ t < n) ∧ ix gr t = ix gr k := by
  obtain ⟨m, w⟩ := h
  induction w with
  | start hs => rw [List.mem_singleton.mp hs]; exact ⟨hk, rfl⟩
  | step wu ht ih =>
    obtain ⟨w, hw, rfl⟩ := List.mem_map.mp ht
    exact ⟨hr _ ih.1.1 ih.1.2 w hw, (G.inn _ ih.1.1 ih.1.2 w hw).trans ih.2⟩
theorem Rg.sound (G : Rg n gr ma) (hl : ma.length = n) (hr : ∀ k : Int, 0 ≤ k → k < n → ∀ w ∈ (ix ma k).2.2, 0 ≤ w.1 ∧ w.1 < n) : SoundS (ls, ma, c) := by
  intro u hu t ht
  have hu' : 0 ≤ u ∧ u < n := by rw [← hl]; exact hu
  obtain ⟨w, hw, rfl⟩ := List.mem_map.mp ht
  exact G.rc (hr u hu'.1 hu'.2 w hw) hu' (G.inn u hu'.1 hu'.2 w hw).symm
theorem Rg.ms (g : Gd (ls, ma, c)) (G : Rg n gr ma) (hl : ma.length = n) (hr : ∀ k : Int, 0 ≤ k → k < n → ∀ w ∈ (ix ma k).2.2, 0 ≤ w.1 ∧ w.1 < n) {k j : Int} (hk : 0 ≤ k ∧ k < n) (hj : 0 ≤ j ∧ j < n) : Thru.ms (ls, ma, c) k = Thru.ms (ls, ma, c) j ↔ ix gr k = ix gr j := by
  have S := Rg.sound (ls := ls) (c := c) G hl hr
  have hk' : 0 ≤ k ∧ k < ((ls, ma, c) : Net).2.1.length := by show 0 ≤ k ∧ k < ma.length; rw [hl]; exact hk
  have hj' : 0 ≤ j ∧ j < ((ls, ma, c) : Net).2.1.length := by show 0 ≤ j ∧ j < ma.length; rw [hl]; exact hj
  constructor
  · intro e
    have a := (ms_facts g hk').2.1
    have b := (ms_facts g hj').2.1
    have a' := (G.inv hr hk a).2
    have b' := (G.inv hr hj b).2
    rw [← a', ← b', e]
  · intro e
    exact ms_eq g S hj' (G.rc hj hk e)
end
theorem eqv_ints : ∀ x y : List Int, PyData.eqv (.list (x.map .int)) (.list (y.map .int)) = true ↔ x = y
  | [], [] => by simp [PyData.eqv, PyData.eqvAll]
  | [], b :: y => by simp [PyData.eqv, PyData.eqvAll]
  | a :: x, [] => by simp [PyData.eqv, PyData.eqvAll]
  | a :: x, b :: y => by
    have := eqv_ints x y
    simp only [PyData.eqv, List.map_cons, PyData.eqvAll, Bool.and_eq_true, List.cons.injEq] at this ⊢
    rw [this]
    simp
theorem alike_ints : ∀ x y : List Int, PySem.W.alike (.list (x.map .int)) (.list (y.map .int)) = true := fun x y => by
  have h := li_alike (x, 0) (y, 0)
  unfold liPy at h
  simp only [PySem.W.alike, PySem.W.alikeAll, Bool.and_eq_true] at h ⊢
  exact h.1
theorem liLe_ne {p q : LI} (h : p.1 ≠ q.1) : liLe p q = decide (p.1 ≤ q.1) := by
  show (!PySem.W.dataLt (.tuple [.list (q.1.map .int), .int q.2]) (.tuple [.list (p.1.map .int), .int p.2])) = _
  rw [PySem.W.dataLt_pair (alike_ints _ _) (by simp [PySem.W.alike]), if_neg (fun z => h ((eqv_ints _ _).mp z).symm), PySem.W.dataLt_list]
  show (!PySem.W.rowLt (q.1.map .int) (p.1.map .int)) = _
  rw [PySem.W.dataLt_ints]
  by_cases c : q.1 < p.1
  · have h' : ¬ p.1 ≤ q.1 := fun r => List.not_lt.mpr r c
    simp [c, h']
  · have h' : p.1 ≤ q.1 := List.not_lt.mp c
    simp [c, h']
theorem sortLI_uniq {l m : List LI} (hp : m.Perm l) (hs : m.Pairwise fun a b => a.1 < b.1) : m = sortLI l := by
  have T := PySem.W.sortLe_total (PyProof.Rows.listOrd PyProof.Rows.itemOrd) false (fun b => PySem.W.keyToks (liPy b))
  have hp2 : m.Perm (sortLI l) := hp.trans (List.mergeSort_perm l liLe).symm
  have up : (sortLI l).Pairwise fun a b => liLe a b = true := List.pairwise_mergeSort (fun a b c => T.trans a b c) (fun a b => by
    have := T.total a b
    simpa using this) l
  have um : m.Pairwise fun a b => liLe a b = true := hs.imp fun {a b} h => by
    have ne : a.1 ≠ b.1 := fun z => by rw [z] at h; exact List.lt_irrefl _ h
    rw [liLe_ne ne]
    exact decide_eq_true (List.le_of_lt h)
  refine hp2.eq_of_pairwise (fun a b ha hb h1 h2 => ?_) um up
  have hb' : b ∈ m := hp2.mem_iff.mpr hb
  by_cases e : a.1 = b.1
  · obtain ⟨i, hi, ei⟩ := List.mem_iff_getElem.mp ha
    obtain ⟨j, hj, ej⟩ := List.mem_iff_getElem.mp hb'
    have pw := List.pairwise_iff_getElem.mp hs
    rcases Nat.lt_trichotomy i j with q | q | q
    · have := pw i j hi hj q
      rw [ei, ej, e] at this; exact absurd this (List.lt_irrefl _)
    · subst q; rw [← ei, ← ej]
    · have := pw j i hj hi q
      rw [ei, ej, e] at this; exact absurd this (List.lt_irrefl _)
  · rw [liLe_ne e] at h1
    rw [liLe_ne (fun z => e z.symm)] at h2
    exact absurd (List.le_antisymm (of_decide_eq_true h1) (of_decide_eq_true h2)) e
structure Cls (n : Nat) (gr : List Int) (cs : List (List Int)) : Prop where
  of : ∀ l ∈ cs, ∃ k : Int, (0 ≤ k ∧ k < n) ∧ l = own gr n k
  all : ∀ k : Int, 0 ≤ k → k < n → own gr n k ∈ cs
  ne : cs.Pairwise (· ≠ ·)
  le : cs.length ≤ 4
structure CI (m k : Nat) (z : Stm × List (List Int)) : Prop where
  ex : ∃ gr : List Int, gr.length = k ∧ (∀ x ∈ gr, 0 ≤ x ∧ x < m) ∧ ∀ i : Nat, i < m → ix z.2 (i : Int) = (rangeI 0 (k : Int)).filter fun t => decide (ix gr t = (i : Int))
  len : z.2.length = m
def CrO (n : Nat) (r : List (List Int) × Stm) : Prop := ∃ gr : List Int, gr.length = n ∧ Cls n gr r.1
theorem range_succ (k : Nat) : rangeI 0 ((k + 1 : Nat) : Int) = rangeI 0 (k : Int) ++ [(k : Int)] := by
  unfold rangeI
  rw [show (((k + 1 : Nat) : Int) - 0).toNat = k + 1 by omega, show ((k : Int) - 0).toNat = k by omega, List.range_succ, List.map_append]
  simp
theorem crowds_drawn (s : Stm) {n : Nat} (n12 : n ≤ 12) : s__law_crowds s (n : Int) ∧ CrO n (t__law_crowds s (n : Int)) := by
  unfold s__law_crowds t__law_crowds
  have t1 := take_b (s := s) (most := 4) (by decide)
  refine hd_bd (fun (z : Stm × Int) => ∃ m : Nat, z.2 = m ∧ 1 ≤ m ∧ m ≤ 4) ⟨(1 + (t__law_take s 4).1).toNat, by dsimp only; omega, by omega, by omega⟩ ?_
  rintro ⟨s1, mm⟩ ⟨m, rfl, m1, m4⟩
  dsimp only
  refine hd_and ⟨by omega, by omega⟩ (hd_and (by rw [rangeI_len]; omega) (hd_bd (fun (z : List (List Int)) => z.length = m ∧ ∀ i : Nat, i < m → ix z (i : Int) = []) ⟨by rw [List.length_map, rangeI_len]; omega, fun i hi => ?_⟩ ?_))
  · rw [ix_get (by rw [List.length_map, rangeI_len]; omega), List.getElem_map]
  rintro z0 ⟨zl, z1⟩
  refine hd_and ⟨by omega, by omega⟩ (hd_fold (CI m) ⟨⟨[], rfl, (fun x h => by cases h), fun i hi => by rw [show rangeI 0 ((0 : Nat) : Int) = [] from rfl]; exact z1 i hi⟩, zl⟩ (fun k hk z hz => ?_) (fun z hz => ?_))
  · have hk2 := hk
    rw [rangeI_len] at hk2
    rw [rangeI_get hk]
    have e0 : (0 : Int) + (k : Int) = (k : Int) := by omega
    rw [e0]
    obtain ⟨s2, fd⟩ := z
    obtain ⟨⟨gr, g1, g2, g3⟩, fl⟩ := hz
    dsimp only at g3 fl ⊢
    have t2 := take_b (s := s2) (most := (m : Int)) (by omega)
    generalize (t__law_take s2 (m : Int)).2 = s3 at *
    obtain ⟨j, ej⟩ : ∃ j : Nat, (t__law_take s2 (m : Int)).1 = j := ⟨(t__law_take s2 (m : Int)).1.toNat, by omega⟩
    rw [ej] at t2 ⊢
    have hj : j < m := by omega
    have gj := g3 j hj
    refine ⟨⟨by omega, inB_nat (by omega) (by omega), ?_⟩, ?_⟩
    · rw [gj]
      have := List.length_filter_le (fun t => decide (ix gr t = (j : Int))) (rangeI 0 (k : Int))
      rw [rangeI_len] at this
      omega
    · refine ⟨⟨gr ++ [(j : Int)], by simp [g1], fun x hx => ?_, fun i hi => ?_⟩, by show (setI fd _ _).length = m; rw [setI_len]; exact fl⟩
      · rcases List.mem_append.mp hx with h | h
        · exact g2 x h
        · rw [List.mem_singleton.mp h]; omega
      · show ix (setI fd (j : Int) _) (i : Int) = _
        rw [ix_set (by omega) (by omega), range_succ, List.filter_append]
        have ef : (rangeI 0 (k : Int)).filter (fun t => decide (ix (gr ++ [(j : Int)]) t = (i : Int))) = (rangeI 0 (k : Int)).filter (fun t => decide (ix gr t = (i : Int))) := by
          refine List.filter_congr fun t ht => ?_
          rw [mem_rangeI] at ht
          obtain ⟨t', rfl⟩ : ∃ q : Nat, t = q := ⟨t.toNat, by omega⟩
          rw [ix_app1 (by omega)]
        rw [ef, List.filter_cons, List.filter_nil, ix_app2 g1.symm]
        by_cases c : j = i
        · subst c
          rw [if_pos rfl, gj]
          simp
        · rw [if_neg c, g3 i hi]
          have : ¬ (j : Int) = (i : Int) := by omega
          simp [this]
  · obtain ⟨s2, fd⟩ := z
    rw [rangeI_len, show ((n : Int) - 0).toNat = n by omega] at hz
    obtain ⟨⟨gr, g1, g2, g3⟩, fl⟩ := hz
    dsimp only at g3 fl ⊢
    refine ⟨by omega, gr, g1, ?_⟩
    have at_ : ∀ i (h : i < fd.length), fd[i] = (rangeI 0 (n : Int)).filter fun t => decide (ix gr t = (i : Int)) := fun i h => by
      rw [← ix_get h]; exact g3 i (by omega)
    have own_of : ∀ {k : Int} {i : Nat}, ix gr k = (i : Int) → own gr n k = (rangeI 0 (n : Int)).filter fun t => decide (ix gr t = (i : Int)) := fun {k i} e => by
      unfold own; rw [e]
    have mem : ∀ l, l ∈ (fd.filter (fun (xv10 : List Int) => !decide (xv10 = ([] : List Int)))).map (fun (xv10 : List Int) => xv10) ↔ l ∈ fd ∧ l ≠ [] := fun l => by
      rw [List.map_id', List.mem_filter]; simp
    refine ⟨fun l hl => ?_, fun k k0 k1 => ?_, ?_, ?_⟩
    · obtain ⟨h1, h2⟩ := (mem l).mp hl
      obtain ⟨i, hi, e⟩ := List.mem_iff_getElem.mp h1
      obtain ⟨t, ht⟩ := List.exists_mem_of_ne_nil l h2
      have ht' := ht
      rw [← e, at_ i hi, List.mem_filter, mem_rangeI, decide_eq_true_eq] at ht'
      exact ⟨t, ht'.1, by rw [own_of ht'.2, ← at_ i hi, e]⟩
    · have hg := g2 _ (ix_mem (xs := gr) (inB_nat k0 (by rw [g1]; exact k1)))
      obtain ⟨i, ei⟩ : ∃ i : Nat, ix gr k = i := ⟨(ix gr k).toNat, by omega⟩
      have hi : i < fd.length := by omega
      refine (mem _).mpr ⟨?_, List.ne_nil_of_mem (own_mem.mpr ⟨⟨k0, k1⟩, rfl⟩)⟩
      rw [own_of ei, ← at_ i hi]
      exact List.getElem_mem hi
    · rw [List.map_id', List.pairwise_filter, List.pairwise_iff_getElem]
      intro i j hi hj hij n1 n2 e
      have n1' : fd[i] ≠ [] := by simpa using n1
      obtain ⟨t, ht⟩ := List.exists_mem_of_ne_nil _ n1'
      have h1 := ht
      rw [at_ i hi, List.mem_filter, decide_eq_true_eq] at h1
      rw [e, at_ j hj, List.mem_filter, decide_eq_true_eq] at ht
      have := h1.2.symm.trans ht.2
      omega
    · rw [List.length_map]
      have := List.length_filter_le (fun (xv10 : List Int) => !decide (xv10 = ([] : List Int))) fd
      omega
theorem erase_perm : ∀ (ys : List Int) (j : Nat) (hj : j < ys.length), (ys[j] :: ys.eraseIdx j).Perm ys
  | y :: ys, 0, _ => List.Perm.refl _
  | y :: ys, j + 1, hj => by
    have := erase_perm ys j (by simpa using hj)
    have hj' : j < ys.length := by simpa using hj
    show (ys[j] :: y :: ys.eraseIdx j).Perm (y :: ys)
    exact (List.Perm.swap y _ _).trans (this.cons y)
def RiO (l : List Int) (r : List Int × Stm) : Prop := r.1.Perm l
theorem ring_drawn (s : Stm) {l : List Int} (hl : l.length ≤ 12) : s__law_ring s l ∧ RiO l (t__law_ring s l) := by
  unfold s__law_ring t__law_ring
  refine hd_eq (hd_eq (hd_last (hd_wh (fun (z : Stm × List Int × List Int) => (z.2.1 ++ z.2.2).Perm l) (fun z => z.2.1.length) ?_ ?_ ?_)))
  · simp
  · rintro ⟨s3, ys, zs⟩ hp
    have hl2 := hp.length_eq
    dsimp only at hp hl2 ⊢
    rw [List.length_append] at hl2
    have key : ys ≠ [] → ∃ (j : Nat) (hj : j < ys.length), ixN' ys.length (t__law_take s3 (ys.length : Int)).1 = j ∧ ix ys (t__law_take s3 (ys.length : Int)).1 = ys[j] ∧ InB ys.length (t__law_take s3 (ys.length : Int)).1 := fun hy => by
      have l0 : 0 < ys.length := List.length_pos_iff.mpr hy
      have tb := take_b (s := s3) (most := (ys.length : Int)) (by omega)
      obtain ⟨j, ej⟩ : ∃ j : Nat, (t__law_take s3 (ys.length : Int)).1 = j := ⟨(t__law_take s3 (ys.length : Int)).1.toNat, by omega⟩
      rw [ej] at tb ⊢
      refine ⟨j, by omega, ?_, ix_get (by omega), inB_nat (by omega) (by omega)⟩
      unfold ixN'
      rw [if_neg (by omega)]; omega
    refine ⟨fun z => ?_, fun z => ?_⟩
    · have hy : ys ≠ [] := by simpa using z
      obtain ⟨j, hj, _, _, ib⟩ := key hy
      exact ⟨by omega, ib, by omega, by omega⟩
    · have hy : ys ≠ [] := by simpa using z
      obtain ⟨j, hj, e1, e2, ib⟩ := key hy
      simp only [bd_eq, e1, e2]
      refine ⟨?_, ?_⟩
      · refine List.Perm.trans ?_ hp
        rw [← List.append_assoc]
        refine List.Perm.trans (List.perm_append_singleton _ _) ?_
        rw [← List.cons_append]
        exact (erase_perm ys j hj).append_right _
      · rw [List.length_eraseIdx_of_lt hj]; omega
  · rintro ⟨s3, ys, zs⟩ hp hc
    dsimp only at hp hc ⊢
    have hy : ys = [] := by simpa using hc
    subst hy
    rw [List.nil_append] at hp
    exact ⟨trivial, hp⟩
structure GoO (n : Nat) (l r : List Int) (k : Int) (ws : List Way) : Prop where
  ok : WaysOk n true ws
  inn : ∀ w ∈ ws, w.1 ∈ l
  nx : nxr r k ∈ ws.map (·.1)
  sm : ∀ w ∈ ws, w.2.num ≤ 60 ∧ w.2.den ≤ 60
def GoP (n : Nat) (l r : List Int) (k : Int) (z : List Way × Stm) : Prop := GoO n l r k z.1
theorem goes_drawn (s : Stm) {n : Nat} {l r : List Int} {k : Int} (n12 : n ≤ 12) (hl : ∀ x ∈ l, 0 ≤ x ∧ x < n) (up : l.Pairwise (· < ·)) (p : r.Perm l) (hk : k ∈ l) : s__law_goes s l r k ∧ GoP n l r k (t__law_goes s l r k) := by
  have ll : l.length ≤ n := by
    have := rising_len (n := n) (xs := l) (lo := 0) hl up (by decide) (by omega)
    omega
  obtain ⟨o1, o2, o3⟩ := nxr_ok (p.symm.subset hk)
  unfold s__law_goes t__law_goes
  refine hd_and (p.symm.subset hk) (hd_and o1 (hd_and o2 (hd_bd (fun v => v = nxr r k) rfl ?_)))
  rintro fo rfl
  refine hd_and (P := GoP n l r k) (by omega) (hd_bd (fun (z : Stm × List Int) => z.2.Sublist l ∧ nxr r k ∈ z.2) ⟨lcS_sub _ _, lcS_keep _ _ (fun s => by simp) (p.subset o3)⟩ ?_)
  rintro ⟨s4, so⟩ ⟨so1, so2⟩
  dsimp only at so1 so2 ⊢
  have sl := so1.length_le
  have lc := lcS_map (S := fun _ _ => True) (e := fun (xv1 : Int) (s2 : Stm) => ((1 + (t__law_take s2 5).1), (t__law_take s2 5).2)) (fun (_ : Int) y => 1 ≤ y ∧ y ≤ 5) so s4 (fun x hx s => ⟨trivial, by have := take_b (s := s) (most := 5) (by decide); dsimp only; omega⟩)
  refine hd_and (by omega) (hd_bd (fun (z : Stm × List Int) => so.length = z.2.length ∧ ∀ p ∈ z.2, 1 ≤ p ∧ p ≤ 5) ⟨lc.2.len, lc.2.right (fun _ _ _ h => h)⟩ ?_)
  rintro ⟨s1, pa⟩ ⟨q1, q2⟩
  dsimp only at q1 q2 ⊢
  obtain ⟨sp1, sp2⟩ := sum_pos q2
  have pos : 0 < pa.sum := by
    have : 0 < so.length := List.length_pos_of_mem so2
    omega
  obtain ⟨w1, w2, w3⟩ := ways_mk (n := n) (full := true) (below := pa.sum) q1 (by omega) (fun x hx => hl x (so1.subset hx)) (up.sublist so1) q2 (by omega) (by omega) pos (fun _ => rfl)
  refine ⟨⟨fun _ _ => pos, by rw [List.length_zip]; omega⟩, w1, fun w hw => so1.subset ?_, ?_, fun w hw => ?_⟩
  · rw [← w2]; exact List.mem_map.mpr ⟨w, hw, rfl⟩
  · show nxr r k ∈ List.map _ _
    rw [w2]; exact so2
  · obtain ⟨q, hq, rfl⟩ := List.mem_map.mp hw
    have h2 := q2 _ (List.of_mem_zip hq).2
    have := DrL.divI_small (a := q.2) (b := pa.sum) (by omega) pos
    dsimp only
    omega
theorem ix_seti {α : Type} [Inhabited α] {n : Nat} {xs : List α} (hl : xs.length = n) {s u : Int} {v : α} (hs : 0 ≤ s ∧ s < n) (hu : 0 ≤ u ∧ u < n) : ix (setI xs s v) u = if u = s then v else ix xs u := by
  obtain ⟨s', rfl⟩ : ∃ k : Nat, s = k := ⟨s.toNat, by omega⟩
  obtain ⟨u', rfl⟩ : ∃ k : Nat, u = k := ⟨u.toNat, by omega⟩
  rw [ix_set (by omega) (by omega)]
  by_cases c : s' = u'
  · subst c; rw [if_pos rfl, if_pos rfl]
  · rw [if_neg c, if_neg (by omega)]
def QfO (n : Nat) (l : List Int) (gh : List (List Way)) : Prop := ∃ r : List Int, r.Perm l ∧ ∀ k ∈ l, GoO n l r k (ix gh k)
structure OI (n : Nat) (cs : List (List Int)) (j : Nat) (z : Stm × List (List Way)) : Prop where
  len : z.2.length = n
  at_ : ∀ i (h : i < cs.length), i < j → QfO n cs[i] z.2
structure II (n : Nat) (cs : List (List Int)) (j : Nat) (l r : List Int) (i : Nat) (z : Stm × List (List Way)) : Prop where
  len : z.2.length = n
  at_ : ∀ i (h : i < cs.length), i < j → QfO n cs[i] z.2
  my : ∀ p (h : p < l.length), p < i → GoO n l r l[p] (ix z.2 l[p])
structure LnG (l : Line) : Prop where
  g : GoodLine l
  mo : l.2.1 = 0
  lo : l.2.2.2 ≠ "lose"
  rm : l.2.2.1 = 0 ∨ 8 ≤ l.2.2.1
theorem cls_apart {n : Nat} {gr : List Int} {cs : List (List Int)} (C : Cls n gr cs) {i j : Nat} (hi : i < cs.length) (hj : j < cs.length) (ne : i ≠ j) {x : Int} (h1 : x ∈ cs[i]) (h2 : x ∈ cs[j]) : False := by
  obtain ⟨a, _, ea⟩ := C.of _ (List.getElem_mem hi)
  obtain ⟨b, _, eb⟩ := C.of _ (List.getElem_mem hj)
  rw [ea] at h1
  rw [eb] at h2
  have e : cs[i] = cs[j] := by
    rw [ea, eb]
    unfold own
    rw [(own_mem.mp h1).2.symm.trans (own_mem.mp h2).2]
  have pw := List.pairwise_iff_getElem.mp C.ne
  rcases Nat.lt_or_gt_of_ne ne with q | q
  · exact pw i j hi hj q e
  · exact pw j i hj hi q e.symm
theorem half_eq (q : Rat) : Rat.divInt q.num (2 * (q.den : Int)) = q / 2 := by
  have e : q = Rat.divInt q.num (q.den : Int) := by rw [Rat.divInt_ofNat, Rat.mkRat_self]
  have hd : (q.den : Int) ≠ 0 := by have := q.den_pos; omega
  rw [Rat.divInt_eq_div]
  have e2 : q = (q.num : Rat) / ((q.den : Int) : Rat) := by rw [← Rat.divInt_eq_div]; exact e
  have e3 : ((2 * (q.den : Int) : Int) : Rat) = 2 * ((q.den : Int) : Rat) := by rw [Rat.intCast_mul]; rfl
  rw [e3]
  generalize q.num = a at *
  have h0 : (((q.den : Int)) : Rat) ≠ 0 := by
    intro z
    exact hd (by exact_mod_cast z)
  generalize (((q.den : Int)) : Rat) = b at *
  rw [e2]
  rw [Rat.div_def, Rat.div_def, Rat.div_def, Rat.inv_mul_rev]
  grind
structure NetI (n nl : Nat) (gr : List Int) (cs : List (List Int)) (row : List Line) (ma : List Stand) (cn : List Int) : Prop where
  n1 : 1 ≤ n
  n12 : n ≤ 12
  l1 : 1 ≤ nl
  l4 : nl ≤ 4
  C : Cls n gr cs
  rl : row.length = nl
  rg : ∀ l ∈ row, LnG l
  M : Made nl n true ma
  go : ∀ l ∈ cs, ∃ r : List Int, r.Perm l ∧ ∀ k ∈ l, GoO n l r k (ix ma k).2.2
  cl : cn.length = n
  c0 : ∀ x ∈ cn, 0 ≤ x
  s1 : 1 ≤ cn.sum
  s8 : cn.sum ≤ 8
section
variable {n nl : Nat} {gr : List Int} {cs : List (List Int)} {row : List Line} {ma : List Stand} {cn : List Int}
abbrev snet (row : List Line) (ma : List Stand) (cn : List Int) : Net := (row, ma, (("shut" : Str), (Sum.inr cn : Num)))
theorem NetI.gdp (N : NetI n nl gr cs row ma cn) : Gd (snet row ma cn) := by
  obtain ⟨n1, n12, l1, l4, C, rl, rg, M, go, cl, c0, s1, s8⟩ := N
  have := good_shut (ls := row) (cs := cn) M (id_tn (n := n)) rl l1 (by omega) n1 n12 cl c0 s1 s8 (fun i h => by
    have q := rg _ (List.getElem_mem h)
    refine ⟨q.g, q.lo, q.rm.imp id fun z => ?_⟩
    have := begins_b (ss := ma) c0 (i : Int)
    omega)
  rw [tmap_id M, tnum_id cl] at this
  exact this
theorem NetI.wr (N : NetI n nl gr cs row ma cn) : ∀ k : Int, 0 ≤ k → k < n → ∀ w ∈ (ix ma k).2.2, 0 ≤ w.1 ∧ w.1 < n := fun k a b w hw => by
  have := (N.M.st _ (N.M.at ⟨a, b⟩)).2.2.2.wy w hw
  exact ⟨this.1, this.2.1⟩
theorem NetI.Rgp (N : NetI n nl gr cs row ma cn) : Rg n gr ma := by
  refine ⟨fun k k0 k1 w hw => ?_, fun k k0 k1 => ?_⟩
  · obtain ⟨r, p, h⟩ := N.go _ (N.C.all k k0 k1)
    exact (own_mem.mp ((h k (own_mem.mpr ⟨⟨k0, k1⟩, rfl⟩)).inn w hw)).2
  · obtain ⟨r, p, h⟩ := N.go _ (N.C.all k k0 k1)
    exact ⟨r, p, fun t ht => (h t (p.subset ht)).nx⟩
theorem NetI.so (N : NetI n nl gr cs row ma cn) : t_is_sound (snet row ma cn) = true := (is_sound_shut N.gdp (by show decide (("shut" : Str) = "open") = false; decide)).mpr (N.Rgp.sound N.M.len N.wr)
theorem crd_own (N : NetI n nl gr cs row ma cn) {u : Int} (hu : 0 ≤ u ∧ u < n) : Crw.crd (snet row ma cn) (Thru.ms (snet row ma cn) u) = own gr n u := by
  unfold Crw.crd own
  have e : ((snet row ma cn).2.1.length : Int) = (n : Int) := by show (ma.length : Int) = _; rw [N.M.len]
  rw [e]
  refine List.filter_congr fun t ht => ?_
  rw [mem_rangeI] at ht
  exact decide_eq_decide.mpr (N.Rgp.ms N.gdp N.M.len N.wr ht hu)
theorem lst_in (N : NetI n nl gr cs row ma cn) {u : Int} : u ∈ Crw.lsts (snet row ma cn) ↔ (0 ≤ u ∧ u < n) ∧ Thru.ms (snet row ma cn) u = u := by
  rw [Crw.lsts_mem]
  have e : ((snet row ma cn).2.1.length : Int) = (n : Int) := by show (ma.length : Int) = _; rw [N.M.len]
  rw [e]
theorem NetI.rgk (N : NetI n nl gr cs row ma cn) {u : Int} (hu : 0 ≤ u ∧ u < n) : 0 ≤ u ∧ u < (snet row ma cn).2.1.length := by
  have e : ((snet row ma cn).2.1.length : Int) = (n : Int) := by show (ma.length : Int) = _; rw [N.M.len]
  rw [e]; exact hu
theorem crd_head (N : NetI n nl gr cs row ma cn) {u : Int} (hu : u ∈ Crw.lsts (snet row ma cn)) : ∃ r, Crw.crd (snet row ma cn) u = u :: r := by
  obtain ⟨h1, h2⟩ := (lst_in N).mp hu
  have m : u ∈ Crw.crd (snet row ma cn) u := Crw.crd_mem.mpr ⟨N.rgk h1, h2⟩
  have up : (Crw.crd (snet row ma cn) u).Pairwise (· < ·) := (range_lt _ _).filter _
  have ge : ∀ t ∈ Crw.crd (snet row ma cn) u, u ≤ t := fun t ht => by
    obtain ⟨a, b⟩ := Crw.crd_mem.mp ht
    have := (ms_facts N.gdp a).2.2.2.2
    omega
  cases e : Crw.crd (snet row ma cn) u with
  | nil => rw [e] at m; cases m
  | cons a r =>
    rw [e] at m up ge
    rcases List.mem_cons.mp m with q | q
    · rw [q]; exact ⟨r, rfl⟩
    · have := (List.pairwise_cons.mp up).1 u q
      have := ge a List.mem_cons_self
      omega
noncomputable abbrev due (cs : List (List Int)) (cn : List Int) : List LI := cs.map fun l => (l, (l.map fun x => ix cn x).sum)
theorem crp_due (N : NetI n nl gr cs row ma cn) : (Crw.lsts (snet row ma cn)).map (Crw.crp (snet row ma cn)) = sortLI (due cs cn) := by
  refine sortLI_uniq ?_ ?_
  · have e : (Crw.lsts (snet row ma cn)).map (Crw.crp (snet row ma cn)) = ((Crw.lsts (snet row ma cn)).map (Crw.crd (snet row ma cn))).map fun l => (l, (l.map fun x => ix cn x).sum) := by
      rw [List.map_map]; rfl
    rw [e]
    refine List.Perm.map _ ?_
    have pw : ((Crw.lsts (snet row ma cn)).map (Crw.crd (snet row ma cn))).Nodup := by
      rw [List.nodup_iff_pairwise_ne, List.pairwise_map]
      refine List.Pairwise.imp_of_mem (fun {a b} ha hb hab => ?_) Crw.lsts_up
      obtain ⟨r, e1⟩ := crd_head N ha
      obtain ⟨r', e2⟩ := crd_head N hb
      rw [e1, e2]
      intro z
      injection z with z1 z2
      omega
    have pn : cs.Nodup := N.C.ne
    refine (List.perm_ext_iff_of_nodup pw pn).mpr fun l => ⟨fun h => ?_, fun h => ?_⟩
    · obtain ⟨u, hu, rfl⟩ := List.mem_map.mp h
      obtain ⟨h1, h2⟩ := (lst_in N).mp hu
      rw [← h2, crd_own N h1]
      exact N.C.all u h1.1 h1.2
    · obtain ⟨k, hk, rfl⟩ := N.C.of l h
      have f := ms_facts N.gdp (N.rgk hk)
      have S := N.Rgp.sound (ls := row) (c := (("shut" : Str), (Sum.inr cn : Num))) N.M.len N.wr
      have mm := ms_eq N.gdp S (N.rgk hk) f.2.1
      refine List.mem_map.mpr ⟨Thru.ms (snet row ma cn) k, (lst_in N).mpr ⟨?_, mm⟩, crd_own N hk⟩
      have := f.2.2.2
      omega
  · rw [List.pairwise_map]
    refine List.Pairwise.imp_of_mem (fun {a b} ha hb hab => ?_) Crw.lsts_up
    obtain ⟨r, e1⟩ := crd_head N ha
    obtain ⟨r', e2⟩ := crd_head N hb
    show Crw.crd (snet row ma cn) a < Crw.crd (snet row ma cn) b
    rw [e1, e2]
    exact List.cons_lt_cons_iff.mpr (.inl hab)
def COut (cs : List (List Int)) (cn : List Int) (r : List LI) : Prop := r = sortLI (due cs cn) ∧ 0 < r.length ∧ ∀ p ∈ r, p.1.length ≤ 12
theorem cro_ok (N : NetI n nl gr cs row ma cn) : s_crowds__o (snet row ma cn) ∧ COut cs cn (t_crowds__o (snet row ma cn)) := by
  obtain ⟨c1, c2⟩ := Crw.crowds_ok N.gdp N.so (by show decide (("shut" : Str) = "open") = false; decide)
  have c2 : Look.t_crowds (snet row ma cn) = (Crw.lsts (snet row ma cn)).map (Crw.crp (snet row ma cn)) := c2
  refine ⟨c1, ?_⟩
  have e : t_crowds__o (snet row ma cn) = Look.t_crowds (snet row ma cn) := rfl
  rw [e, c2]
  refine ⟨crp_due N, ?_, fun p hp => ?_⟩
  · rw [List.length_map]
    have f := ms_facts N.gdp (N.rgk (u := 0) ⟨by omega, by have := N.n1; omega⟩)
    refine List.length_pos_of_mem (a := (0 : Int)) ((lst_in N).mpr ⟨⟨by omega, by have := N.n1; omega⟩, ?_⟩)
    omega
  · obtain ⟨u, _, rfl⟩ := List.mem_map.mp hp
    have := Crw.crd_len (net := snet row ma cn) (u := u)
    have e : (snet row ma cn).2.1.length = n := N.M.len
    have := N.n12
    show (Crw.crd (snet row ma cn) u).length ≤ 12
    omega
noncomputable abbrev hma (ma : List Stand) : List Stand := ma.map fun (x : Stand) => (x.1, x.2.1, (t__law_halved x.2.2))
abbrev hrow (row : List Line) : List Line := row.map fun (x : Line) => (x.1, x.2.1, (0 : Int), ("" : Str))
noncomputable abbrev onet (n : Nat) (row : List Line) (ma : List Stand) : Net := (hrow row, hma ma, (("open" : Str), (Sum.inl (repI ([(1 : Rat)] : List Rat) (n : Int)) : Num)))
theorem NetI.sm (N : NetI n nl gr cs row ma cn) {s : Stand} (hs : s ∈ ma) : ∀ w ∈ s.2.2, w.2.num ≤ 60 ∧ w.2.den ≤ 60 := by
  obtain ⟨i, hi, e⟩ := List.mem_iff_getElem.mp hs
  have hi' : i < n := by rw [← N.M.len]; exact hi
  obtain ⟨r, p, h⟩ := N.go _ (N.C.all (i : Int) (by omega) (by omega))
  have := (h (i : Int) (own_mem.mpr ⟨⟨by omega, by omega⟩, rfl⟩)).sm
  rw [ix_get hi, e] at this
  exact this
theorem halved_ok (N : NetI n nl gr cs row ma cn) {s : Stand} (hs : s ∈ ma) : s__law_halved s.2.2 ∧ WaysOk n false (t__law_halved s.2.2) ∧ sumQ ((t__law_halved s.2.2).map (·.2)) = 1 / 2 := by
  have sm := N.sm hs
  have W := (N.M.st s hs).2.2.2
  have wl : s.2.2.length ≤ 12 := by
    have up : (s.2.2.map (·.1)).Pairwise (· < ·) := by rw [List.pairwise_map]; exact W.up
    have := rising_len (n := n) (xs := s.2.2.map (·.1)) (lo := 0) (fun x hx => by
      obtain ⟨w, hw, rfl⟩ := List.mem_map.mp hx
      exact ⟨(W.wy w hw).1, (W.wy w hw).2.1⟩) up (by decide) (by omega)
    rw [List.length_map] at this
    have := N.n12
    omega
  have e2 : (t__law_halved s.2.2).map (·.2) = (s.2.2.map (·.2)).map fun x => x / 2 := by
    unfold t__law_halved
    rw [List.map_map, List.map_map]
    refine List.map_congr_left fun w hw => ?_
    exact half_eq w.2
  have e3 : sumQ ((t__law_halved s.2.2).map (·.2)) = 1 / 2 := by
    rw [e2, Wide.sumQ_divs, W.fu rfl]
  refine ⟨⟨fun w hw => ?_, by omega⟩, ⟨fun w hw => ?_, ?_, by rw [e3]; grind, fun z => by cases z⟩, e3⟩
  · have := sm w hw
    have := w.2.den_pos
    exact ⟨mok (a := 20) (b := 20) (by omega) (by omega) (by decide), by omega⟩
  · obtain ⟨v, hv, rfl⟩ := List.mem_map.mp hw
    have h1 := sm v hv
    have h2 := W.wy v hv
    have := v.2.den_pos
    have h3 := h2.2.2.1.1
    exact ⟨h2.1, h2.2.1, smq_div (by omega) (by omega) (by omega) (by omega), divI_pos (num_pos h2.2.2.2) (by omega)⟩
  · unfold t__law_halved
    rw [List.pairwise_map]
    exact W.up
theorem NetI.og (N : NetI n nl gr cs row ma cn) : Gd (onet n row ma) := by
  have M2 : Made nl n false (hma ma) := by
    refine ⟨by rw [List.length_map]; exact N.M.len, fun s hs => ?_, fun i hi => ?_⟩
    · obtain ⟨v, hv, rfl⟩ := List.mem_map.mp hs
      have := N.M.st v hv
      exact ⟨this.1, this.2.1, this.2.2.1, (halved_ok N hv).2.1⟩
    · obtain ⟨s, hs, e⟩ := N.M.us i hi
      exact ⟨_, List.mem_map.mpr ⟨s, hs, rfl⟩, e⟩
  have rl : (repI ([(1 : Rat)] : List Rat) (n : Int)).length = n := by rw [repI_rep, List.length_replicate]; omega
  have ra : ∀ x ∈ repI ([(1 : Rat)] : List Rat) (n : Int), x = 1 := fun x hx => by rw [repI_rep] at hx; exact (List.mem_replicate.mp hx).2
  have := good_open (ls := hrow row) (r := repI ([(1 : Rat)] : List Rat) (n : Int)) M2 (id_tn (n := n)) (by rw [List.length_map]; exact N.rl) N.l1 (by have := N.l4; omega) N.n1 N.n12 (fun l hl => ?_) rl (fun x hx => by rw [ra x hx]; exact ⟨by decide, by decide, by decide⟩) ⟨1, by rw [repI_rep]; exact List.mem_replicate.mpr ⟨by have := N.n1; omega, rfl⟩, by decide⟩ (.inl fun l hl => ?_)
  · rw [tmap_id M2, tnum_id rl] at this
    exact this
  · obtain ⟨v, hv, rfl⟩ := List.mem_map.mp hl
    have q := (N.rg v hv).g
    exact ⟨q.n1, q.n6, q.sp, q.up, q.mo, Int.le_refl 0, (show (0 : Int) ≤ 9 by decide), .inl ⟨rfl, rfl⟩⟩
  · obtain ⟨v, hv, rfl⟩ := List.mem_map.mp hl
    exact ⟨rfl, (N.rg v hv).mo⟩
theorem NetI.oso (N : NetI n nl gr cs row ma cn) : t_is_sound (onet n row ma) = true := by
  have g := N.og
  have ho : t_is_open (onet n row ma) = true := by show decide (("open" : Str) = "open") = true; decide
  have hl : (onet n row ma).2.1.length = n := by show (hma ma).length = n; rw [List.length_map]; exact N.M.len
  refine (is_sound_open g ho).mpr ⟨fun t ht => ⟨t, ht, ?_, Rc.refl t⟩, fun u hu => ⟨u, Rc.refl u, ?_⟩⟩
  · rw [hl] at ht
    unfold isStart
    have e : t_from_outside (onet n row ma) t = 1 := by
      unfold t_from_outside
      rw [ho]
      show ix (repI ([(1 : Rat)] : List Rat) (n : Int)) t = 1
      obtain ⟨t', rfl⟩ : ∃ k : Nat, t = k := ⟨t.toNat, by omega⟩
      rw [ix_get (by rw [repI_rep, List.length_replicate]; omega)]
      simp only [repI_rep, List.getElem_replicate]
    rw [e]
    rfl
  · rw [hl] at hu
    obtain ⟨u', rfl⟩ : ∃ k : Nat, u = k := ⟨u.toNat, by omega⟩
    have hu' : u' < ma.length := by rw [N.M.len]; omega
    have := (halved_ok N (List.getElem_mem hu')).2.2
    have e : shs (onet n row ma) (u' : Int) = (t__law_halved ma[u'].2.2).map (·.2) := by
      show (ix (hma ma) (u' : Int)).2.2.map (·.2) = _
      rw [ix_get (by rw [List.length_map]; exact hu'), List.getElem_map]
    rw [e, this]
    intro z
    exact absurd z (by grind)
theorem refused_ok (N : NetI n nl gr cs row ma cn) : s__law_refused (onet n row ma) ∧ t__law_refused (onet n row ma) = true := by
  have ho : t_is_open (onet n row ma) = true := by show decide (("open" : Str) = "open") = true; decide
  have r : r_crowds (onet n row ma) "OtherNet" := ⟨ask_sound_s N.og N.oso, trivial, fun _ => rfl, fun z => by rw [ho] at z; cases z⟩
  obtain ⟨z1, z2⟩ := isZ_of (x_crowds r)
  unfold s__law_refused t__law_refused
  simp only [bd_eq, z2]
  exact ⟨⟨r, by simp⟩, by simp⟩
end
theorem hd_no {β : Type} {P : β → Prop} {c : Bool} {S : Prop} {t1 t2 : β} (h : c = false) (g : S ∧ P t2) : (c = false → S) ∧ P (cond c t1 t2) := by
  rw [h]; exact ⟨fun _ => g.1, g.2⟩
abbrev IsT (b : Bool) : Prop := b = true
def LnI (k : Nat) (z : Stm × List Line) : Prop := AtI (fun _ l => LnG l) k z.2
theorem law_true {ns : List Int} : fn_law [.scr ns] = .ok (.bl true) .ff .non := by
  have key : s_law ns ∧ IsT (t_law ns) := by
    unfold s_law t_law
    refine hd_eq ?_
    generalize t__law_stream ns 0 = s0
    have t1 := take_b (s := s0) (most := 4) (by decide)
    refine hd_bd (fun (z : Stm × Int) => ∃ m : Nat, z.2 = m ∧ 1 ≤ m ∧ m ≤ 4) ⟨(1 + (t__law_take s0 4).1).toNat, by dsimp only; omega, by omega, by omega⟩ ?_
    rintro ⟨s1, nl'⟩ ⟨nl, rfl, l1, l4⟩
    dsimp only
    have t2 := take_b (s := s1) (most := 13 - (nl : Int)) (by omega)
    refine hd_and (by omega) (hd_bd (fun (z : Stm × Int) => ∃ m : Nat, z.2 = m ∧ nl ≤ m ∧ m ≤ 12) ⟨((nl : Int) + (t__law_take s1 (13 - (nl : Int))).1).toNat, by dsimp only; omega, by omega, by omega⟩ ?_)
    rintro ⟨s2, n'⟩ ⟨n, rfl, nln, n12⟩
    dsimp only
    obtain ⟨c1, c2⟩ := crowds_drawn s2 n12
    refine hd_and c1 (hd_bd (fun (z : Stm × List (List Int)) => ∃ gr : List Int, gr.length = n ∧ Cls n gr z.2) c2 ?_)
    rintro ⟨s3, cs⟩ ⟨gr, gl, C⟩
    dsimp only at C ⊢
    have csl := C.le
    refine hd_and ⟨by omega, by omega, by show 1 ≤ 1000; decide⟩ (hd_bd (fun (z : List (List Way)) => z.length = n) (by rw [repI_rep, List.length_replicate]; omega) ?_)
    intro gh0 hg0
    have up : ∀ l ∈ cs, (∀ x ∈ l, 0 ≤ x ∧ x < n) ∧ l.Pairwise (· < ·) ∧ l.length ≤ 12 := fun l hl => by
      obtain ⟨k, _, rfl⟩ := C.of l hl
      refine ⟨fun x hx => (own_mem.mp hx).1, own_up k, ?_⟩
      have := List.length_filter_le (fun t => decide (ix gr t = ix gr k)) (rangeI 0 (n : Int))
      rw [rangeI_len] at this
      unfold own; omega
    refine hd_fold (OI n cs) ⟨hg0, fun i h z => absurd z (Nat.not_lt_zero _)⟩ (fun j hj z hz => ?_) (fun z hz => ?_)
    · obtain ⟨s4, gh⟩ := z
      obtain ⟨ghl, gat⟩ := hz
      dsimp only at ghl gat ⊢
      obtain ⟨u1, u2, u3⟩ := up _ (List.getElem_mem hj)
      obtain ⟨r1, r2⟩ := ring_drawn s4 u3
      refine hd_and r1 (hd_bd (P := OI n cs (j + 1)) (fun (z : Stm × List Int) => z.2.Perm cs[j]) r2 ?_)
      rintro ⟨s5, r⟩ p
      dsimp only at p ⊢
      refine hd_last (hd_fold (II n cs j cs[j] r) ⟨ghl, gat, fun q h z => absurd z (Nat.not_lt_zero _)⟩ (fun i hi z hz => ?_) (fun z hz => ⟨trivial, ?_⟩))
      · obtain ⟨s6, gh⟩ := z
        obtain ⟨ghl, gat, my⟩ := hz
        dsimp only at ghl gat my ⊢
        have hk := u1 _ (List.getElem_mem hi)
        obtain ⟨g1, g2⟩ := goes_drawn s6 n12 u1 u2 p (List.getElem_mem hi)
        refine ⟨⟨g1, inB_nat hk.1 (by rw [ghl]; exact hk.2)⟩, ?_⟩
        simp only [bd_eq]
        refine ⟨by show (setI gh _ _).length = n; rw [setI_len]; exact ghl, fun a ha haj => ?_, fun a ha hai => ?_⟩
        · obtain ⟨r', p', h'⟩ := gat a ha haj
          refine ⟨r', p', fun k hk' => ?_⟩
          have hkr := (up _ (List.getElem_mem ha)).1 k hk'
          show GoO n cs[a] r' k (ix (setI gh cs[j][i] _) k)
          rw [ix_seti ghl hk hkr, if_neg]
          · exact h' k hk'
          · intro z
            exact cls_apart C ha hj (by omega) hk' (z ▸ List.getElem_mem hi)
        · have har := u1 _ (List.getElem_mem ha)
          show GoO n cs[j] r cs[j][a] (ix (setI gh cs[j][i] _) cs[j][a])
          rw [ix_seti ghl hk har]
          by_cases e : a = i
          · subst e
            rw [if_pos rfl]; exact g2
          · rw [if_neg]
            · exact my a ha (by omega)
            · intro z
              have pw := List.pairwise_iff_getElem.mp u2
              have := pw a i ha hi (by omega)
              omega
      · obtain ⟨s6, gh⟩ := z
        obtain ⟨ghl, gat, my⟩ := hz
        refine ⟨ghl, fun a ha haj => ?_⟩
        by_cases e : a = j
        · subst e
          refine ⟨r, p, fun k hk => ?_⟩
          obtain ⟨q, hq, rfl⟩ := List.mem_iff_getElem.mp hk
          exact my q hq hq
        · exact gat a ha (by omega)
    obtain ⟨s4, gh⟩ := z
    obtain ⟨ghl, gat⟩ := hz
    dsimp only at ghl gat ⊢
    refine hd_eq (hd_and ⟨by omega, by omega⟩ (hd_fold LnI AtI.nil (fun k hk z hz => ?_) (fun z hz => ?_)))
    · obtain ⟨s5, row⟩ := z
      have z1 : AtI (fun _ l => LnG l) k row := hz
      have hk2 := hk
      rw [rangeI_len] at hk2
      dsimp only
      have d1 := take_b (s := s5) (most := 3) (by decide)
      refine hd_and (P := LnI (k + 1)) (inB_nat (n := 3) (i := (t__law_take s5 3).1) d1.1 d1.2) (hd_bd (fun (z : Stm × Int × Str) => z.2 ∈ [(0, ("" : Str)), (8, "stay"), (9, "skip")]) (ix_mem (inB_nat (n := 3) (i := (t__law_take s5 3).1) d1.1 d1.2)) ?_)
      rintro ⟨s6, ro, ru⟩ hm
      dsimp only at hm ⊢
      have d2 := take_b (s := s6) (most := 5) (by decide)
      refine ⟨⟨isq_one, by have := z1.1; omega⟩, ?_⟩
      refine z1.snoc ?_
      have sq : SmQ (mkq (1 + (t__law_take s6 5).1, 1)) := smq_int (by omega) (by omega)
      have sp : 0 < mkq (1 + (t__law_take s6 5).1, 1) := mkq_pos (by omega)
      have base : ∀ (a : Int) (b : Str), 0 ≤ a → a ≤ 9 → ((a = 0 ∧ b = "") ∨ (0 < a ∧ b ∈ [("stay" : Str), "lose", "skip"])) → GoodLine ([mkq (1 + (t__law_take s6 5).1, 1)], (0 : Rat), a, b) := fun a b h0 h9 hr => ⟨by show 1 ≤ 1; omega, by show 1 ≤ 6; omega, fun x hx => by rw [List.mem_singleton.mp hx]; exact ⟨sq, sp⟩, List.pairwise_singleton _ _, DrL.smq_zero, h0, h9, hr⟩
      simp only [List.mem_cons, Prod.mk.injEq, List.not_mem_nil, or_false] at hm
      rcases hm with ⟨rfl, rfl⟩ | ⟨rfl, rfl⟩ | ⟨rfl, rfl⟩
      · exact ⟨base _ _ (by decide) (by decide) (.inl ⟨rfl, rfl⟩), rfl, by show ("" : Str) ≠ "lose"; decide, .inl rfl⟩
      · exact ⟨base _ _ (by decide) (by decide) (.inr ⟨by decide, by simp⟩), rfl, by show ("stay" : Str) ≠ "lose"; decide, .inr (by show (8 : Int) ≤ 8; decide)⟩
      · exact ⟨base _ _ (by decide) (by decide) (.inr ⟨by decide, by simp⟩), rfl, by show ("skip" : Str) ≠ "lose"; decide, .inr (by show (8 : Int) ≤ 9; decide)⟩
    obtain ⟨s5, row⟩ := z
    rw [rangeI_len] at hz
    have hrow : AtI (fun _ l => LnG l) nl row := by
      have : ((nl : Int) - 0).toNat = nl := by omega
      rw [this] at hz; exact hz
    clear hz
    dsimp only
    have lp := lcS_map (S := fun (_ : Int) (_ : Stm) => (0 : Int) < (nl : Int)) (e := fun (xv20 : Int) (s21 : Stm) => ((t__law_take s21 (nl : Int)).1, (t__law_take s21 (nl : Int)).2)) (fun (_ : Int) y => 0 ≤ y ∧ y < (nl : Int)) (rangeI 0 ((n : Int) - (nl : Int))) s5 (fun x hx s => ⟨by omega, take_b (by omega)⟩)
    have lpl := lp.2.len
    have lpr := lp.2.right (P := fun y => 0 ≤ y ∧ y < (nl : Int)) (fun _ _ _ h => h)
    rw [rangeI_len] at lpl
    refine hd_and ⟨by omega, by omega⟩ (hd_and ⟨by omega, by omega⟩ (hd_and lp.1 (hd_and (by rw [rangeI_len]; omega) (hd_and (by rw [rangeI_len, ← lpl]; omega) (hd_bd (fun (z : Stm × List Int) => DrC.PlOk nl n z.2) ⟨?_, fun x hx => ?_, fun i hi => ?_⟩ ?_)))))
    · dsimp only
      rw [List.length_append, rangeI_len, ← lpl]; omega
    · rcases List.mem_append.mp hx with h | h
      · rw [mem_rangeI] at h; exact h
      · exact lpr x h
    · exact List.mem_append_left _ (mem_rangeI.mpr ⟨by omega, by omega⟩)
    rintro ⟨s6, pl⟩ P
    dsimp only at P ⊢
    have lm := lcS_map (S := fun (xv25 : Int) (s26 : Stm) => (InB pl.length xv25) ∧ (IsQ (((1 : Int) + (t__law_take s26 5).1), (1 : Int))) ∧ (InB gh.length xv25)) (e := fun (xv25 : Int) (s26 : Stm) => (((ix pl xv25, mkq (((1 : Int) + (t__law_take s26 5).1), (1 : Int)), ix gh xv25) : Stand), (t__law_take s26 5).2)) (fun (x : Int) (y : Stand) => y.1 = ix pl x ∧ (SmQ y.2.1 ∧ 0 < y.2.1) ∧ y.2.2 = ix gh x) (rangeI 0 (n : Int)) s6 (fun x hx s => by
      rw [mem_rangeI] at hx
      have tb := take_b (s := s) (most := 5) (by decide)
      exact ⟨⟨inB_nat hx.1 (by rw [P.len]; exact hx.2), isq_one, inB_nat hx.1 (by rw [ghl]; exact hx.2)⟩, rfl, ⟨smq_int (by omega) (by omega), mkq_pos (by omega)⟩, rfl⟩)
    have lml := lm.2.len
    rw [rangeI_len] at lml
    refine hd_and ⟨by omega, by omega⟩ (hd_and lm.1 (hd_and (by rw [rangeI_len]; omega) (hd_bd (fun (z : Stm × List Stand) => All2 (fun (x : Int) (y : Stand) => y.1 = ix pl x ∧ (SmQ y.2.1 ∧ 0 < y.2.1) ∧ y.2.2 = ix gh x) (rangeI 0 (n : Int)) z.2) lm.2 ?_)))
    clear lm lml
    rintro ⟨s7, ma⟩ hma
    dsimp only at hma ⊢
    have mal : ma.length = n := by rw [← hma.len, rangeI_len]; omega
    have mat : ∀ i (h : i < ma.length), ma[i].1 = ix pl (i : Int) ∧ (SmQ ma[i].2.1 ∧ 0 < ma[i].2.1) ∧ ma[i].2.2 = ix gh (i : Int) := fun i h => by
      have h1 : i < (rangeI 0 (n : Int)).length := by rw [rangeI_len]; omega
      have := hma.get i h1 h
      rw [rangeI_get h1, show (0 : Int) + (i : Int) = (i : Int) by omega] at this
      exact this
    have gall : ∀ k : Int, 0 ≤ k → k < n → ∃ r : List Int, r.Perm (own gr n k) ∧ ∀ t ∈ own gr n k, GoO n (own gr n k) r t (ix gh t) := fun k k0 k1 => by
      obtain ⟨i, hi, e⟩ := List.mem_iff_getElem.mp (C.all k k0 k1)
      have := gat i hi hi
      rw [e] at this
      exact this
    have M : Made nl n true ma := DrC.made_of P ⟨mal, fun i h => by
      obtain ⟨a, b, c⟩ := mat i h
      refine ⟨a, b, ?_⟩
      rw [c]
      obtain ⟨r, p, q⟩ := gall (i : Int) (by omega) (by omega)
      exact (q _ (own_mem.mpr ⟨⟨by omega, by omega⟩, rfl⟩)).ok⟩
    have go : ∀ l ∈ cs, ∃ r : List Int, r.Perm l ∧ ∀ k ∈ l, GoO n l r k (ix ma k).2.2 := fun l hl => by
      obtain ⟨k, hk, rfl⟩ := C.of l hl
      obtain ⟨r, p, q⟩ := gall k hk.1 hk.2
      refine ⟨r, p, fun t ht => ?_⟩
      have ht' := (own_mem.mp ht).1
      obtain ⟨t', rfl⟩ : ∃ k : Nat, t = k := ⟨t.toNat, by omega⟩
      rw [ix_get (by omega), (mat t' (by omega)).2.2]
      exact q _ ht
    have t8 := take_b (s := s7) (most := 8) (by decide)
    refine hd_and ⟨by omega, by omega, by show 1 ≤ 1000; decide⟩ (hd_bd (fun z => z = repI [(0 : Int)] (n : Int)) rfl ?_)
    rintro _ rfl
    refine hd_and ⟨by omega, by omega⟩ (hd_fold (CntI n) CntI.zero (fun k hk z hz => ?_) (fun z hz => ?_))
    · have t5 := take_b (s := z.1) (most := (n : Int)) (by omega)
      have hl := hz.len
      refine hd_and (P := CntI n (k + 1)) (by omega) (hd_bd (fun (y : Stm × Int) => 0 ≤ y.2 ∧ y.2 < n) ⟨t5.1, by omega⟩ ?_)
      rintro ⟨s8, at'⟩ ⟨a0, a1⟩
      dsimp only at a0 a1 ⊢
      have ib : InB z.2.length at' := inB_nat a0 (by rw [hl]; exact a1)
      exact ⟨⟨ib, ib⟩, hz.inc _ a0 a1⟩
    obtain ⟨s8, cn⟩ := z
    rw [rangeI_len] at hz
    obtain ⟨cl, c0, csm⟩ := hz
    dsimp only at cl c0 csm ⊢
    have N : NetI n nl gr cs row ma cn := ⟨by omega, n12, l1, l4, C, hrow.1, fun l hl => by
      obtain ⟨i, hi, rfl⟩ := List.mem_iff_getElem.mp hl
      exact hrow.2 i hi, M, go, cl, c0, by omega, by omega⟩
    have g := N.gdp
    have gn : GoodNet row ma (("shut" : Str), (Sum.inr cn : Num)) := g
    refine hd_and gn (hd_bd (fun z => z = snet row ma cn) rfl ?_)
    intro net hnet
    refine hd_and gn (hd_bd (fun z => z = snet row ma cn) rfl ?_)
    intro kept hkept
    refine hd_and (fun l hl => ⟨fun x hx => inB_nat ((up l hl).1 x hx).1 (by rw [cl]; exact ((up l hl).1 x hx).2), by have := (up l hl).2.2; omega⟩) (hd_and (by omega) (hd_bd (fun z => z = sortLI (due cs cn)) rfl ?_))
    intro du hdu
    obtain ⟨k1, k2, k3, k4⟩ := cro_ok N
    have ok1 : OkE eNet net := by rw [hnet]; exact okE_net g
    have ok2 : OkE eNet kept := by rw [hkept]; exact okE_net g
    have e2 : eNet net = eNet kept → net = kept := fun _ => by rw [hnet, hkept]
    refine hd_and (by rw [hnet]; exact k1) (hd_bd (fun z => z = sortLI (due cs cn) ∧ 0 < z.length ∧ ∀ p ∈ z, p.1.length ≤ 12) (by rw [hnet]; exact ⟨k2, k3, k4⟩) ?_)
    rintro told ⟨b1, b2, b3⟩
    refine hd_and (fun _ _ => ⟨ok1, ok2, e2⟩) (hd_no (by rw [b1, hdu, hnet, hkept, decide_eq_true rfl, decide_eq_true rfl]; rfl) ?_)
    have hd0 : (ix told 0).1.length ≤ 12 := b3 _ (ix_mem (inB_nat (by decide) (by omega)))
    refine hd_and (inB_nat (by decide) (by omega)) (hd_and (by omega) (hd_eq (hd_and (by rw [hnet]; exact k1) (hd_and (fun _ => ⟨ok1, ok2, e2⟩) (hd_no ?_ ?_)))))
    · rw [hnet] at *
      rw [k2, hdu, hkept, decide_eq_true rfl, decide_eq_true rfl]; rfl
    obtain ⟨q1, q2⟩ := refused_ok N
    have og : GoodNet (onet n row ma).1 (onet n row ma).2.1 (onet n row ma).2.2 := N.og
    refine hd_and (fun v hv => (halved_ok N hv).1) (hd_and (by omega) (hd_eq (hd_and (by have := hrow.1; omega) (hd_eq ⟨⟨⟨by omega, by omega, by show 1 ≤ 1000; decide⟩, og, q1⟩, q2⟩))))
  rw [e_law key.1, show t_law ns = true from key.2]
end K11
namespace K11
open PySem PySem.Spec PyProof.Rows L2 Dt
namespace Wk
def topS (i : Nat) : Stmt := PySem.Challenge.pw_restlines_k11_crowds.main.body.getD i (.Pass ⟨0, 0, 0, 0⟩)
abbrev s_common : Stmt := topS 9
abbrev s_fraction : Stmt := topS 10
abbrev s_plus : Stmt := topS 11
abbrev s_less : Stmt := topS 12
abbrev s_is_less : Stmt := topS 13
abbrev s_total : Stmt := topS 14
abbrev s_stands_of : Stmt := topS 25
abbrev s_ways_of : Stmt := topS 26
abbrev s_is_open : Stmt := topS 27
abbrev s_from_outside : Stmt := topS 28
abbrev s_left_over : Stmt := topS 29
abbrev s_ask : Stmt := topS 30
abbrev s_ask_fraction : Stmt := topS 31
abbrev s_ask_line : Stmt := topS 32
abbrev s_ask_stand : Stmt := topS 33
abbrev s_ask_rates : Stmt := topS 34
abbrev s_ask_counts : Stmt := topS 35
abbrev s_ask_net : Stmt := topS 36
abbrev s_made_net : Stmt := topS 37
abbrev s_begin_count : Stmt := topS 39
abbrev s_goals : Stmt := topS 40
abbrev s_steps_to : Stmt := topS 41
abbrev s_can_go : Stmt := topS 42
abbrev s_starts_of : Stmt := topS 43
abbrev s_reached : Stmt := topS 44
abbrev s_may_leave : Stmt := topS 45
abbrev s_staying : Stmt := topS 46
abbrev s_one_way : Stmt := topS 47
abbrev s_is_sound : Stmt := topS 48
abbrev s_ask_sound : Stmt := topS 49
abbrev s_crowd_of : Stmt := topS 50
abbrev s_crowd_stands : Stmt := topS 51
abbrev s_crowds : Stmt := topS 52
abbrev s__law_stream : Stmt := topS 54
abbrev s__law_take : Stmt := topS 55
abbrev s__law_fraction : Stmt := topS 56
abbrev s__law_crowds : Stmt := topS 57
abbrev s__law_ring : Stmt := topS 58
abbrev s__law_goes : Stmt := topS 59
abbrev s__law_halved : Stmt := topS 60
abbrev s__law_refused : Stmt := topS 61
abbrev s_law : Stmt := topS 62
structure Txt (K : PySem.W.Frag) (mg : Str → Option Value) : Prop where
  f_common : FnIn K mg "common" s_common
  f_fraction : FnIn K mg "fraction" s_fraction
  f_plus : FnIn K mg "plus" s_plus
  f_less : FnIn K mg "less" s_less
  f_is_less : FnIn K mg "is_less" s_is_less
  f_total : FnIn K mg "total" s_total
  f_stands_of : FnIn K mg "stands_of" s_stands_of
  f_ways_of : FnIn K mg "ways_of" s_ways_of
  f_is_open : FnIn K mg "is_open" s_is_open
  f_from_outside : FnIn K mg "from_outside" s_from_outside
  f_left_over : FnIn K mg "left_over" s_left_over
  f_ask : FnIn K mg "ask" s_ask
  f_ask_fraction : FnIn K mg "ask_fraction" s_ask_fraction
  f_ask_line : FnIn K mg "ask_line" s_ask_line
  f_ask_stand : FnIn K mg "ask_stand" s_ask_stand
  f_ask_rates : FnIn K mg "ask_rates" s_ask_rates
  f_ask_counts : FnIn K mg "ask_counts" s_ask_counts
  f_ask_net : FnIn K mg "ask_net" s_ask_net
  f_made_net : FnIn K mg "made_net" s_made_net
  f_begin_count : FnIn K mg "begin_count" s_begin_count
  f_goals : FnIn K mg "goals" s_goals
  f_steps_to : FnIn K mg "steps_to" s_steps_to
  f_can_go : FnIn K mg "can_go" s_can_go
  f_starts_of : FnIn K mg "starts_of" s_starts_of
  f_reached : FnIn K mg "reached" s_reached
  f_may_leave : FnIn K mg "may_leave" s_may_leave
  f_staying : FnIn K mg "staying" s_staying
  f_one_way : FnIn K mg "one_way" s_one_way
  f_is_sound : FnIn K mg "is_sound" s_is_sound
  f_ask_sound : FnIn K mg "ask_sound" s_ask_sound
  f_crowd_of : FnIn K mg "crowd_of" s_crowd_of
  f_crowd_stands : FnIn K mg "crowd_stands" s_crowd_stands
  f_crowds : FnIn K mg "crowds" s_crowds
  f__law_stream : FnIn K mg "_law_stream" s__law_stream
  f__law_take : FnIn K mg "_law_take" s__law_take
  f__law_fraction : FnIn K mg "_law_fraction" s__law_fraction
  f__law_crowds : FnIn K mg "_law_crowds" s__law_crowds
  f__law_ring : FnIn K mg "_law_ring" s__law_ring
  f__law_goes : FnIn K mg "_law_goes" s__law_goes
  f__law_halved : FnIn K mg "_law_halved" s__law_halved
  f__law_refused : FnIn K mg "_law_refused" s__law_refused
  f_law : FnIn K mg "law" s_law
  b_abs : mg "abs" = none
  b_enumerate : mg "enumerate" = none
  b_isinstance : mg "isinstance" = none
  b_len : mg "len" = none
  b_list : mg "list" = none
  b_max : mg "max" = none
  b_min : mg "min" = none
  b_range : mg "range" = none
  b_sorted : mg "sorted" = none
  b_sum : mg "sum" = none
  b_zip : mg "zip" = none
  c_MOST_COMERS : CnIn K mg "MOST_COMERS" (.int 8)
  c_MOST_LINES : CnIn K mg "MOST_LINES" (.int 8)
  c_MOST_ROOM : CnIn K mg "MOST_ROOM" (.int 9)
  c_MOST_SPEEDS : CnIn K mg "MOST_SPEEDS" (.int 6)
  c_MOST_STANDS : CnIn K mg "MOST_STANDS" (.int 12)
  c_NOUGHT : CnIn K mg "NOUGHT" (.tup [(.int 0), (.int 1)])
  c_ONE : CnIn K mg "ONE" (.tup [(.int 1), (.int 1)])
  c_OPEN : CnIn K mg "OPEN" (.str "open")
  c_RULES : CnIn K mg "RULES" (.tup [(.str "stay"), (.str "lose"), (.str "skip")])
  c_SHUT : CnIn K mg "SHUT" (.str "shut")
  c_SIZE : CnIn K mg "SIZE" (.int 1000)
  x_NoFraction : ExC K mg "NoFraction"
  x_NoNet : ExC K mg "NoNet"
  x_OtherNet : ExC K mg "OtherNet"
  x_RestError : ExC K mg "RestError"
  x_Unsound : ExC K mg "Unsound"
  xc_OtherNet : XeC K mg "OtherNet"
  m_OtherNet_OtherNet : ExM K mg "OtherNet" "OtherNet" true
  m_OtherNet_RestError : ExM K mg "OtherNet" "RestError" true
variable {P : Program} {w : World} {K : PySem.W.Frag} {mg : Str → Option Value} {base : Heap}
theorem sc_common : FnScope ["one", "other"] ["one", "other"] (defScope s_common) := ⟨rfl, rfl, rfl, by decide +kernel, rfl, by decide +kernel, by decide +kernel⟩
theorem ok_common {P : Program} {w : World} {K : PySem.W.Frag} {mg : Str → Option Value} {base : Heap} (T : Txt K mg) : Ok P w K mg base "common" 33 2 none Std.fn_common := by
  refine ok_mk (N := ["one", "other"]) (ps := ["one", "other"]) (fb := Std.fb_common) T.f_common sc_common (by decide) (fun _ _ _ _ _ _ us hl => match us, hl with | [_, _], _ => rfl) (fun f cdv A outer s H E gd hr tk po => ?_)
  exact svs_cons (sv_while po (et_ne hr.units (ev_var 1) ev_int) (svs_one (sv_par (i := 0) (j := 1) rfl sc_common.nd (ea_cons (ev_var 1) (ea_cons (ev_mod (ev_var 0) (ev_var 1)) ea_nil)))))
    (svs_one (sv_ret (eo_move 0)))
theorem sc_fraction : FnScope ["above", "below", "share"] ["above", "below"] (defScope s_fraction) := ⟨rfl, rfl, rfl, by decide +kernel, rfl, by decide +kernel, by decide +kernel⟩
theorem ok_fraction {P : Program} {w : World} {K : PySem.W.Frag} {mg : Str → Option Value} {base : Heap} (T : Txt K mg) : Ok P w K mg base "fraction" 34 2 none Std.fn_fraction := by
  have g_common := ok_common (P := P) (w := w) (base := base) T
  refine ok_mk (N := ["above", "below", "share"]) (ps := ["above", "below"]) (fb := Std.fb_fraction) T.f_fraction sc_fraction (by decide) (fun _ _ _ _ _ _ us hl => match us, hl with | [_, _], _ => rfl) (fun f cdv A outer s H E gd hr tk po => ?_)
  exact svs_cons (sv_if (et_eq hr.units (ev_var 1) ev_int) (svs_one (sv_raise rfl tk T.x_NoFraction)) svs_nil)
    (svs_cons (sv_set (i := 2) (eo_fn g_common gd hr tk (ex_v (ev_abs T.b_abs (ea_cons (ev_var 0) ea_nil)) (ex_v (ev_abs T.b_abs (ea_cons (ev_var 1) ea_nil)) ex_nil))) sc_fraction.nd)
    (svs_cons (sv_if (et_lt (ev_var 1) ev_int) (svs_one (sv_set (i := 2) (eo_of (ev_sub ev_int (ev_var 2))) sc_fraction.nd)) svs_nil)
    (svs_one (sv_ret (eo_of (ev_tup (ea_cons (ev_fdiv gd hr (by decide) (ev_var 0) (ev_var 2)) (ea_cons (ev_fdiv gd hr (by decide) (ev_var 1) (ev_var 2)) ea_nil))))))))
theorem sc_plus : FnScope ["one", "other"] ["one", "other"] (defScope s_plus) := ⟨rfl, rfl, rfl, by decide +kernel, rfl, by decide +kernel, by decide +kernel⟩
theorem ok_plus {P : Program} {w : World} {K : PySem.W.Frag} {mg : Str → Option Value} {base : Heap} (T : Txt K mg) : Ok P w K mg base "plus" 35 2 none Std.fn_plus := by
  have g_fraction := ok_fraction (P := P) (w := w) (base := base) T
  refine ok_mk (N := ["one", "other"]) (ps := ["one", "other"]) (fb := Std.fb_plus) T.f_plus sc_plus (by decide) (fun _ _ _ _ _ _ us hl => match us, hl with | [_, _], _ => rfl) (fun f cdv A outer s H E gd hr tk po => ?_)
  exact svs_one (sv_ret (eo_fn g_fraction gd hr tk (ex_v (ev_add (ev_mul (ev_item (ev_var 0) ev_int) (ev_item (ev_var 1) ev_int)) (ev_mul (ev_item (ev_var 1) ev_int) (ev_item (ev_var 0) ev_int))) (ex_v (ev_mul (ev_item (ev_var 0) ev_int) (ev_item (ev_var 1) ev_int)) ex_nil))))
theorem sc_less : FnScope ["one", "other"] ["one", "other"] (defScope s_less) := ⟨rfl, rfl, rfl, by decide +kernel, rfl, by decide +kernel, by decide +kernel⟩
theorem ok_less {P : Program} {w : World} {K : PySem.W.Frag} {mg : Str → Option Value} {base : Heap} (T : Txt K mg) : Ok P w K mg base "less" 35 2 none Std.fn_less := by
  have g_fraction := ok_fraction (P := P) (w := w) (base := base) T
  refine ok_mk (N := ["one", "other"]) (ps := ["one", "other"]) (fb := Std.fb_less) T.f_less sc_less (by decide) (fun _ _ _ _ _ _ us hl => match us, hl with | [_, _], _ => rfl) (fun f cdv A outer s H E gd hr tk po => ?_)
  exact svs_one (sv_ret (eo_fn g_fraction gd hr tk (ex_v (ev_sub (ev_mul (ev_item (ev_var 0) ev_int) (ev_item (ev_var 1) ev_int)) (ev_mul (ev_item (ev_var 1) ev_int) (ev_item (ev_var 0) ev_int))) (ex_v (ev_mul (ev_item (ev_var 0) ev_int) (ev_item (ev_var 1) ev_int)) ex_nil))))
theorem sc_is_less : FnScope ["one", "other"] ["one", "other"] (defScope s_is_less) := ⟨rfl, rfl, rfl, by decide +kernel, rfl, by decide +kernel, by decide +kernel⟩
theorem ok_is_less {P : Program} {w : World} {K : PySem.W.Frag} {mg : Str → Option Value} {base : Heap} (T : Txt K mg) : Ok P w K mg base "is_less" 33 2 none Std.fn_is_less := by
  refine ok_mk (N := ["one", "other"]) (ps := ["one", "other"]) (fb := Std.fb_is_less) T.f_is_less sc_is_less (by decide) (fun _ _ _ _ _ _ us hl => match us, hl with | [_, _], _ => rfl) (fun f cdv A outer s H E gd hr tk po => ?_)
  exact svs_one (sv_ret (eo_of (ev_lt (ev_mul (ev_item (ev_var 0) ev_int) (ev_item (ev_var 1) ev_int)) (ev_mul (ev_item (ev_var 1) ev_int) (ev_item (ev_var 0) ev_int)))))
theorem sc_total : FnScope ["some", "found", "one"] ["some"] (defScope s_total) := ⟨rfl, rfl, rfl, by decide +kernel, rfl, by decide +kernel, by decide +kernel⟩
theorem ok_total {P : Program} {w : World} {K : PySem.W.Frag} {mg : Str → Option Value} {base : Heap} (T : Txt K mg) : Ok P w K mg base "total" 36 1 none Std.fn_total := by
  have g_plus := ok_plus (P := P) (w := w) (base := base) T
  refine ok_mk (N := ["some", "found", "one"]) (ps := ["some"]) (fb := Std.fb_total) T.f_total sc_total (by decide) (fun _ _ _ _ _ _ us hl => match us, hl with | [_], _ => rfl) (fun f cdv A outer s H E gd hr tk po => ?_)
  exact svs_cons (sv_set (i := 1) (eo_of (ev_const T.c_NOUGHT)) sc_total.nd)
    (svs_cons (sv_for po rfl (iv_list (ev_var 0)) (gv_name (i := 2) sc_total.nd) (svs_one (sv_set (i := 1) (eo_fn g_plus gd hr tk (ex_v (ev_var 1) (ex_v (ev_var 2) ex_nil))) sc_total.nd)))
    (svs_one (sv_ret (eo_move 1))))
abbrev N_stands_of : List Str := ["net"]
theorem sc_stands_of : FnScope N_stands_of ["net"] (defScope s_stands_of) := ⟨rfl, rfl, rfl, by decide +kernel, rfl, by decide +kernel, by decide +kernel⟩
theorem ok_stands_of (T : Txt K mg) : Ok P w K mg base "stands_of" 33 1 none Look.fn_stands_of := by
  refine ok_mk (N := N_stands_of) (ps := ["net"]) (fb := Look.fb_stands_of) T.f_stands_of sc_stands_of (by decide) (fun _ _ _ _ _ _ us hl => match us, hl with | [_], _ => rfl) (fun f cdv A outer s H E gd hr tk po => ?_)
  exact svs_one (sv_ret (eo_of (ev_item (ev_var 0) ev_int)))
abbrev N_ways_of : List Str := ["net", "stand"]
theorem sc_ways_of : FnScope N_ways_of ["net", "stand"] (defScope s_ways_of) := ⟨rfl, rfl, rfl, by decide +kernel, rfl, by decide +kernel, by decide +kernel⟩
theorem ok_ways_of (T : Txt K mg) : Ok P w K mg base "ways_of" 33 2 none Look.fn_ways_of := by
  refine ok_mk (N := N_ways_of) (ps := ["net", "stand"]) (fb := Look.fb_ways_of) T.f_ways_of sc_ways_of (by decide) (fun _ _ _ _ _ _ us hl => match us, hl with | [_, _], _ => rfl) (fun f cdv A outer s H E gd hr tk po => ?_)
  exact svs_one (sv_ret (eo_of (ev_item (ev_item (ev_item (ev_var 0) ev_int) (ev_var 1)) ev_int)))
abbrev N_is_open : List Str := ["net"]
theorem sc_is_open : FnScope N_is_open ["net"] (defScope s_is_open) := ⟨rfl, rfl, rfl, by decide +kernel, rfl, by decide +kernel, by decide +kernel⟩
theorem ok_is_open (T : Txt K mg) : Ok P w K mg base "is_open" 33 1 none Look.fn_is_open := by
  refine ok_mk (N := N_is_open) (ps := ["net"]) (fb := Look.fb_is_open) T.f_is_open sc_is_open (by decide) (fun _ _ _ _ _ _ us hl => match us, hl with | [_], _ => rfl) (fun f cdv A outer s H E gd hr tk po => ?_)
  exact svs_one (sv_ret (eo_of (ev_eq hr.units (ev_item (ev_item (ev_var 0) ev_int) ev_int) (ev_const T.c_OPEN))))
abbrev N_from_outside : List Str := ["net", "stand"]
theorem sc_from_outside : FnScope N_from_outside ["net", "stand"] (defScope s_from_outside) := ⟨rfl, rfl, rfl, by decide +kernel, rfl, by decide +kernel, by decide +kernel⟩
theorem ok_from_outside (T : Txt K mg) : Ok P w K mg base "from_outside" 34 2 none Look.fn_from_outside := by
  have g_is_open := ok_is_open (P := P) (w := w) (base := base) T
  refine ok_mk (N := N_from_outside) (ps := ["net", "stand"]) (fb := Look.fb_from_outside) T.f_from_outside sc_from_outside (by decide) (fun _ _ _ _ _ _ us hl => match us, hl with | [_, _], _ => rfl) (fun f cdv A outer s H E gd hr tk po => ?_)
  exact svs_cons (sv_if (et_val (ev_of (eo_fn g_is_open gd hr tk (ex_v (ev_var 0) ex_nil)))) (svs_one (sv_ret (eo_of (ev_item (ev_item (ev_item (ev_var 0) ev_int) ev_int) (ev_var 1))))) svs_nil)
    (svs_one (sv_ret (eo_of (ev_const T.c_NOUGHT))))
abbrev N_left_over : List Str := ["net", "stand", "to", "share"]
theorem sc_left_over : FnScope N_left_over ["net", "stand"] (defScope s_left_over) := ⟨rfl, rfl, rfl, by decide +kernel, rfl, by decide +kernel, by decide +kernel⟩
theorem ok_left_over (T : Txt K mg) : Ok P w K mg base "left_over" 37 2 none Look.fn_left_over := by
  have g_less := ok_less (P := P) (w := w) (base := base) T
  have g_total := ok_total (P := P) (w := w) (base := base) T
  have g_ways_of := ok_ways_of (P := P) (w := w) (base := base) T
  refine ok_mk (N := N_left_over) (ps := ["net", "stand"]) (fb := Look.fb_left_over) T.f_left_over sc_left_over (by decide) (fun _ _ _ _ _ _ us hl => match us, hl with | [_, _], _ => rfl) (fun f cdv A outer s H E gd hr tk po => ?_)
  exact svs_one (sv_ret (eo_fn g_less gd hr tk (ex_v (ev_const T.c_ONE) (ex_v (ev_of (eo_fn g_total gd hr tk (ex_v (ev_of (eo_lc (own := [("to", 2), ("share", 3)]) rfl sc_left_over.nd (iv_list (ev_of (eo_fn g_ways_of gd hr tk (ex_v (ev_var 0) (ex_v (ev_var 1) ex_nil))))) (blkOk_by (own := [("to", 2), ("share", 3)]) (N := N_left_over) (sc := (defScope s_left_over)) (by decide +kernel)) (fun _ _ _ _ _ => gv_tup rfl (gvs_cons (gv_name (i := 2) sc_left_over.nd) (gvs_cons (gv_name (i := 3) sc_left_over.nd) gvs_nil))) (fun _ _ _ _ _ => ets_nil) (fun _ _ _ _ _ => ev_var 3))) ex_nil))) ex_nil))))
abbrev N_ask : List Str := ["good", "words"]
theorem sc_ask : FnScope N_ask ["good", "words"] (defScope s_ask) := ⟨rfl, rfl, rfl, by decide +kernel, rfl, by decide +kernel, by decide +kernel⟩
theorem ok_ask (T : Txt K mg) : Ok P w K mg base "ask" 33 2 none Net.fn_ask := by
  refine ok_mk (N := N_ask) (ps := ["good", "words"]) (fb := Net.fb_ask) T.f_ask sc_ask (by decide) (fun _ _ _ _ _ _ us hl => match us, hl with | [_, _], _ => rfl) (fun f cdv A outer s H E gd hr tk po => ?_)
  exact svs_cons (sv_if (et_not (et_val (ev_var 0))) (svs_one (sv_raiseV rfl tk T.x_NoNet (ev_var 1))) svs_nil)
    svs_nil
abbrev N_ask_fraction : List Str := ["one", "above_nought", "above", "below"]
theorem sc_ask_fraction : FnScope N_ask_fraction ["one", "above_nought"] (defScope s_ask_fraction) := ⟨rfl, rfl, rfl, by decide +kernel, rfl, by decide +kernel, by decide +kernel⟩
theorem ok_ask_fraction (T : Txt K mg) : Ok P w K mg base "ask_fraction" 34 2 none Net.fn_ask_fraction := by
  have g_ask := ok_ask (P := P) (w := w) (base := base) T
  have g_common := ok_common (P := P) (w := w) (base := base) T
  refine ok_mk (N := N_ask_fraction) (ps := ["one", "above_nought"]) (fb := Net.fb_ask_fraction) T.f_ask_fraction sc_ask_fraction (by decide) (fun _ _ _ _ _ _ us hl => match us, hl with | [_, _], _ => rfl) (fun f cdv A outer s H E gd hr tk po => ?_)
  exact svs_cons (sv_asg (ev_var 0) (gv_tup rfl (gvs_cons (gv_name (i := 2) sc_ask_fraction.nd) (gvs_cons (gv_name (i := 3) sc_ask_fraction.nd) gvs_nil))))
    (svs_cons (sv_expr (ev_of (eo_fn g_ask gd hr tk (ex_v (ev_and (ev_chain op_le opd_B op_le opd_B ev_int (ev_var 2) (ev_const T.c_SIZE)) (ev_and (ev_chain op_le opd_B op_le opd_B ev_int (ev_var 3) (ev_const T.c_SIZE)) (ev_one (ev_eq hr.units (ev_of (eo_fn g_common gd hr tk (ex_v (ev_var 2) (ex_v (ev_var 3) ex_nil)))) ev_int)))) (ex_v ev_str ex_nil)))))
    (svs_cons (sv_expr (ev_of (eo_fn g_ask gd hr tk (ex_v (ev_or (ev_gt (ev_var 2) ev_int) (ev_one (ev_not (ev_var 1)))) (ex_v ev_str ex_nil)))))
    svs_nil))
abbrev N_ask_line : List Str := ["line", "one", "speeds", "more", "room", "rule", "other"]
theorem sc_ask_line : FnScope N_ask_line ["line"] (defScope s_ask_line) := ⟨rfl, rfl, rfl, by decide +kernel, rfl, by decide +kernel, by decide +kernel⟩
theorem ok_ask_line (T : Txt K mg) : Ok P w K mg base "ask_line" 35 1 none Net.fn_ask_line := by
  have g_ask := ok_ask (P := P) (w := w) (base := base) T
  have g_ask_fraction := ok_ask_fraction (P := P) (w := w) (base := base) T
  have g_is_less := ok_is_less (P := P) (w := w) (base := base) T
  refine ok_mk (N := N_ask_line) (ps := ["line"]) (fb := Net.fb_ask_line) T.f_ask_line sc_ask_line (by decide) (fun _ _ _ _ _ _ us hl => match us, hl with | [_], _ => rfl) (fun f cdv A outer s H E gd hr tk po => ?_)
  exact svs_cons (sv_asg (ev_var 0) (gv_tup rfl (gvs_cons (gv_name (i := 2) sc_ask_line.nd) (gvs_cons (gv_name (i := 3) sc_ask_line.nd) (gvs_cons (gv_name (i := 4) sc_ask_line.nd) (gvs_cons (gv_name (i := 5) sc_ask_line.nd) gvs_nil))))))
    (svs_cons (sv_expr (ev_of (eo_fn g_ask gd hr tk (ex_v (ev_chain op_le opd_B op_le opd_B ev_int (ev_len T.b_len (ea_cons (ev_var 2) ea_nil)) (ev_const T.c_MOST_SPEEDS)) (ex_v ev_str ex_nil)))))
    (svs_cons (sv_for po rfl (iv_list (ev_var 2)) (gv_name (i := 1) sc_ask_line.nd) (svs_cons (sv_expr (ev_of (eo_fn g_ask_fraction gd hr tk (ex_v (ev_var 1) (ex_v ev_bl ex_nil)))))
    (svs_kill (is := [1]) svs_nil)))
    (svs_cons (sv_for po rfl (iv_zip T.b_zip (ea_cons (ev_of (eo_slice (ev_var 2) ep_none (ep_some (ev_neg ev_int)))) (ea_cons (ev_of (eo_slice (ev_var 2) (ep_some ev_int) ep_none)) ea_nil))) (gv_tup rfl (gvs_cons (gv_name (i := 1) sc_ask_line.nd) (gvs_cons (gv_name (i := 6) sc_ask_line.nd) gvs_nil))) (svs_cons (sv_expr (ev_of (eo_fn g_ask gd hr tk (ex_v (ev_not (ev_of (eo_fn g_is_less gd hr tk (ex_v (ev_var 6) (ex_v (ev_var 1) ex_nil))))) (ex_v ev_str ex_nil)))))
    (svs_kill (is := [1, 6]) svs_nil)))
    (svs_cons (sv_expr (ev_of (eo_fn g_ask_fraction gd hr tk (ex_v (ev_var 3) (ex_v ev_bl ex_nil)))))
    (svs_cons (sv_expr (ev_of (eo_fn g_ask gd hr tk (ex_v (ev_chain op_le opd_B op_le opd_B ev_int (ev_var 4) (ev_const T.c_MOST_ROOM)) (ex_v ev_str ex_nil)))))
    (svs_cons (sv_if (et_eq hr.units (ev_var 4) ev_int) (svs_cons (sv_expr (ev_of (eo_fn g_ask gd hr tk (ex_v (ev_eq hr.units (ev_var 5) ev_str) (ex_v ev_str ex_nil)))))
    svs_nil) (svs_cons (sv_expr (ev_of (eo_fn g_ask gd hr tk (ex_v (ev_in (ev_var 5) (ev_const T.c_RULES)) (ex_v ev_str ex_nil)))))
    svs_nil))
    svs_nil))))))
abbrev N_ask_stand : List Str := ["stand", "lines", "many", "last", "line", "rate", "goes", "to", "share"]
theorem sc_ask_stand : FnScope N_ask_stand ["stand", "lines", "many"] (defScope s_ask_stand) := ⟨rfl, rfl, rfl, by decide +kernel, rfl, by decide +kernel, by decide +kernel⟩
theorem ok_ask_stand (T : Txt K mg) : Ok P w K mg base "ask_stand" 37 3 none Net.fn_ask_stand := by
  have g_ask := ok_ask (P := P) (w := w) (base := base) T
  have g_ask_fraction := ok_ask_fraction (P := P) (w := w) (base := base) T
  have g_is_less := ok_is_less (P := P) (w := w) (base := base) T
  have g_total := ok_total (P := P) (w := w) (base := base) T
  refine ok_mk (N := N_ask_stand) (ps := ["stand", "lines", "many"]) (fb := Net.fb_ask_stand) T.f_ask_stand sc_ask_stand (by decide) (fun _ _ _ _ _ _ us hl => match us, hl with | [_, _, _], _ => rfl) (fun f cdv A outer s H E gd hr tk po => ?_)
  exact svs_cons (sv_asg (ev_var 0) (gv_tup rfl (gvs_cons (gv_name (i := 4) sc_ask_stand.nd) (gvs_cons (gv_name (i := 5) sc_ask_stand.nd) (gvs_cons (gv_name (i := 6) sc_ask_stand.nd) gvs_nil)))))
    (svs_cons (sv_expr (ev_of (eo_fn g_ask gd hr tk (ex_v (ev_chain op_le opd_B op_lt opd_B ev_int (ev_var 4) (ev_var 1)) (ex_v ev_str ex_nil)))))
    (svs_cons (sv_expr (ev_of (eo_fn g_ask_fraction gd hr tk (ex_v (ev_var 5) (ex_v ev_bl ex_nil)))))
    (svs_cons (sv_set (i := 3) (eo_of (ev_neg ev_int)) sc_ask_stand.nd)
    (svs_cons (sv_for po rfl (iv_list (ev_var 6)) (gv_tup rfl (gvs_cons (gv_name (i := 7) sc_ask_stand.nd) (gvs_cons (gv_name (i := 8) sc_ask_stand.nd) gvs_nil))) (svs_cons (sv_expr (ev_of (eo_fn g_ask gd hr tk (ex_v (ev_chain op_lt opd_B op_lt opd_B (ev_var 3) (ev_var 7) (ev_var 2)) (ex_v ev_str ex_nil)))))
    (svs_cons (sv_expr (ev_of (eo_fn g_ask_fraction gd hr tk (ex_v (ev_var 8) (ex_v ev_bl ex_nil)))))
    (svs_cons (sv_set (i := 3) (eo_of (ev_var 7)) sc_ask_stand.nd)
    (svs_kill (is := [7, 8]) svs_nil)))))
    (svs_cons (sv_expr (ev_of (eo_fn g_ask gd hr tk (ex_v (ev_not (ev_of (eo_fn g_is_less gd hr tk (ex_v (ev_const T.c_ONE) (ex_v (ev_of (eo_fn g_total gd hr tk (ex_v (ev_of (eo_lc (own := [("to", 7), ("share", 8)]) rfl sc_ask_stand.nd (iv_list (ev_var 6)) (blkOk_by (own := [("to", 7), ("share", 8)]) (N := N_ask_stand) (sc := (defScope s_ask_stand)) (by decide +kernel)) (fun _ _ _ _ _ => gv_tup rfl (gvs_cons (gv_name (i := 7) sc_ask_stand.nd) (gvs_cons (gv_name (i := 8) sc_ask_stand.nd) gvs_nil))) (fun _ _ _ _ _ => ets_nil) (fun _ _ _ _ _ => ev_var 8))) ex_nil))) ex_nil))))) (ex_v ev_str ex_nil)))))
    svs_nil)))))
abbrev N_ask_rates : List Str := ["lines", "rates", "one", "rooms", "line"]
theorem sc_ask_rates : FnScope N_ask_rates ["lines", "rates"] (defScope s_ask_rates) := ⟨rfl, rfl, rfl, by decide +kernel, rfl, by decide +kernel, by decide +kernel⟩
theorem ok_ask_rates (T : Txt K mg) : Ok P w K mg base "ask_rates" 35 2 none Net.fn_ask_rates := by
  have g_ask_fraction := ok_ask_fraction (P := P) (w := w) (base := base) T
  have g_ask := ok_ask (P := P) (w := w) (base := base) T
  refine ok_mk (N := N_ask_rates) (ps := ["lines", "rates"]) (fb := Net.fb_ask_rates) T.f_ask_rates sc_ask_rates (by decide) (fun _ _ _ _ _ _ us hl => match us, hl with | [_, _], _ => rfl) (fun f cdv A outer s H E gd hr tk po => ?_)
  exact svs_cons (sv_for po rfl (iv_list (ev_var 1)) (gv_name (i := 2) sc_ask_rates.nd) (svs_cons (sv_expr (ev_of (eo_fn g_ask_fraction gd hr tk (ex_v (ev_var 2) (ex_v ev_bl ex_nil)))))
    (svs_kill (is := [2]) svs_nil)))
    (svs_cons (sv_expr (ev_of (eo_fn g_ask gd hr tk (ex_v (ev_ne hr.units (ev_of (eo_lc (own := [("one", 2)]) rfl sc_ask_rates.nd (iv_list (ev_var 1)) (blkOk_by (own := [("one", 2)]) (N := N_ask_rates) (sc := (defScope s_ask_rates)) (by decide +kernel)) (fun _ _ _ _ _ => gv_name (i := 2) sc_ask_rates.nd) (fun _ _ _ _ _ => ets_one (et_ne hr.units (ev_var 2) (ev_const T.c_NOUGHT))) (fun _ _ _ _ _ => ev_var 2))) (ev_of (eo_lst ea_nil))) (ex_v ev_str ex_nil)))))
    (svs_cons (sv_setLc (i := 3) (own := [("line", 4)]) rfl sc_ask_rates.nd (iv_list (ev_var 0)) (blkOk_by (own := [("line", 4)]) (N := N_ask_rates) (sc := (defScope s_ask_rates)) (by decide +kernel)) (fun _ _ _ _ _ => gv_name (i := 4) sc_ask_rates.nd) (fun _ _ _ _ _ => ets_nil) (fun _ _ _ _ _ => ev_item (ev_var 4) ev_int) (sw_true rfl rfl rfl (by decide +kernel)))
    (svs_frz (i := 3) (svs_cons (sv_if (et_eq hr.units (ev_maxL rfl T.b_max (ea_cons (ev_var 3) ea_nil)) ev_int) (svs_cons (sv_expr (ev_of (eo_fn g_ask gd hr tk (ex_v (ev_eq hr.units (ev_of (eo_lc (own := [("line", 4)]) rfl sc_ask_rates.nd (iv_list (ev_var 0)) (blkOk_by (own := [("line", 4)]) (N := N_ask_rates) (sc := (defScope s_ask_rates)) (by decide +kernel)) (fun _ _ _ _ _ => gv_name (i := 4) sc_ask_rates.nd) (fun _ _ _ _ _ => ets_one (et_ne hr.units (ev_item (ev_var 4) ev_int) (ev_const T.c_NOUGHT))) (fun _ _ _ _ _ => ev_var 4))) (ev_of (eo_lst ea_nil))) (ex_v ev_str ex_nil)))))
    svs_nil) (svs_cons (sv_expr (ev_of (eo_fn g_ask gd hr tk (ex_v (ev_gt (ev_minL rfl T.b_min (ea_cons (ev_var 3) ea_nil)) ev_int) (ex_v ev_str ex_nil)))))
    svs_nil))
    svs_nil))))
abbrev N_ask_counts : List Str := ["lines", "stands", "counts", "stand", "number", "line", "many", "count", "to", "share"]
theorem sc_ask_counts : FnScope N_ask_counts ["lines", "stands", "counts"] (defScope s_ask_counts) := ⟨rfl, rfl, rfl, by decide +kernel, rfl, by decide +kernel, by decide +kernel⟩
theorem ok_ask_counts (T : Txt K mg) : Ok P w K mg base "ask_counts" 37 3 none Net.fn_ask_counts := by
  have g_ask := ok_ask (P := P) (w := w) (base := base) T
  have g_total := ok_total (P := P) (w := w) (base := base) T
  refine ok_mk (N := N_ask_counts) (ps := ["lines", "stands", "counts"]) (fb := Net.fb_ask_counts) T.f_ask_counts sc_ask_counts (by decide) (fun _ _ _ _ _ _ us hl => match us, hl with | [_, _, _], _ => rfl) (fun f cdv A outer s H E gd hr tk po => ?_)
  exact svs_cons (sv_expr (ev_of (eo_fn g_ask gd hr tk (ex_v (ev_and (ev_ge (ev_minL rfl T.b_min (ea_cons (ev_var 2) ea_nil)) ev_int) (ev_one (ev_chain op_le opd_B op_le opd_B ev_int (ev_sum rfl T.b_sum (ea_cons (ev_var 2) ea_nil)) (ev_const T.c_MOST_COMERS)))) (ex_v ev_str ex_nil)))))
    (svs_cons (sv_expr (ev_of (eo_fn g_ask gd hr tk (ex_v (ev_eq hr.units (ev_of (eo_lc (own := [("line", 5)]) rfl sc_ask_counts.nd (iv_list (ev_var 0)) (blkOk_by (own := [("line", 5)]) (N := N_ask_counts) (sc := (defScope s_ask_counts)) (by decide +kernel)) (fun _ _ _ _ _ => gv_name (i := 5) sc_ask_counts.nd) (fun _ _ _ _ _ => ets_one (et_eq hr.units (ev_item (ev_var 5) ev_int) ev_str)) (fun _ _ _ _ _ => ev_var 5))) (ev_of (eo_lst ea_nil))) (ex_v ev_str ex_nil)))))
    (svs_cons (sv_for po rfl (iv_list (ev_var 1)) (gv_name (i := 3) sc_ask_counts.nd) (svs_cons (sv_expr (ev_of (eo_fn g_ask gd hr tk (ex_v (ev_eq hr.units (ev_of (eo_fn g_total gd hr tk (ex_v (ev_of (eo_lc (own := [("to", 8), ("share", 9)]) rfl sc_ask_counts.nd (iv_list (ev_item (ev_var 3) ev_int)) (blkOk_by (own := [("to", 8), ("share", 9)]) (N := N_ask_counts) (sc := (defScope s_ask_counts)) (by decide +kernel)) (fun _ _ _ _ _ => gv_tup rfl (gvs_cons (gv_name (i := 8) sc_ask_counts.nd) (gvs_cons (gv_name (i := 9) sc_ask_counts.nd) gvs_nil))) (fun _ _ _ _ _ => ets_nil) (fun _ _ _ _ _ => ev_var 9))) ex_nil))) (ev_const T.c_ONE)) (ex_v ev_str ex_nil)))))
    (svs_kill (is := [3]) svs_nil)))
    (svs_cons (sv_for po rfl (iv_enum T.b_enumerate (ea_cons (ev_var 0) ea_nil)) (gv_tup rfl (gvs_cons (gv_name (i := 4) sc_ask_counts.nd) (gvs_cons (gv_name (i := 5) sc_ask_counts.nd) gvs_nil))) (svs_cons (sv_set (i := 6) (eo_of (ev_sum rfl T.b_sum (ea_cons (ev_of (eo_lc (own := [("count", 7), ("stand", 3)]) rfl sc_ask_counts.nd (iv_zip T.b_zip (ea_cons (ev_var 2) (ea_cons (ev_var 1) ea_nil))) (blkOk_by (own := [("count", 7), ("stand", 3)]) (N := N_ask_counts) (sc := (defScope s_ask_counts)) (by decide +kernel)) (fun _ _ _ _ _ => gv_tup rfl (gvs_cons (gv_name (i := 7) sc_ask_counts.nd) (gvs_cons (gv_name (i := 3) sc_ask_counts.nd) gvs_nil))) (fun _ _ _ _ _ => ets_one (et_eq hr.units (ev_item (ev_var 3) ev_int) (ev_var 4))) (fun _ _ _ _ _ => ev_var 7))) ea_nil))) sc_ask_counts.nd)
    (svs_cons (sv_expr (ev_of (eo_fn g_ask gd hr tk (ex_v (ev_or (ev_eq hr.units (ev_item (ev_var 5) ev_int) ev_int) (ev_one (ev_le (ev_var 6) (ev_item (ev_var 5) ev_int)))) (ex_v ev_str ex_nil)))))
    (svs_kill (is := [4, 5, 6]) svs_nil))))
    svs_nil)))
abbrev N_ask_net : List Str := ["lines", "stands", "comers", "line", "stand", "used", "kind", "numbers"]
theorem sc_ask_net : FnScope N_ask_net ["lines", "stands", "comers"] (defScope s_ask_net) := ⟨rfl, rfl, rfl, by decide +kernel, rfl, by decide +kernel, by decide +kernel⟩
theorem ok_ask_net (T : Txt K mg) : Ok P w K mg base "ask_net" 38 3 none Net.fn_ask_net := by
  have g_ask := ok_ask (P := P) (w := w) (base := base) T
  have g_ask_line := ok_ask_line (P := P) (w := w) (base := base) T
  have g_ask_stand := ok_ask_stand (P := P) (w := w) (base := base) T
  have g_ask_rates := ok_ask_rates (P := P) (w := w) (base := base) T
  have g_ask_counts := ok_ask_counts (P := P) (w := w) (base := base) T
  refine ok_mk (N := N_ask_net) (ps := ["lines", "stands", "comers"]) (fb := Net.fb_ask_net) T.f_ask_net sc_ask_net (by decide) (fun _ _ _ _ _ _ us hl => match us, hl with | [_, _, _], _ => rfl) (fun f cdv A outer s H E gd hr tk po => ?_)
  exact svs_cons (sv_expr (ev_of (eo_fn g_ask gd hr tk (ex_v (ev_and (ev_chain op_le opd_B op_le opd_B ev_int (ev_len T.b_len (ea_cons (ev_var 0) ea_nil)) (ev_const T.c_MOST_LINES)) (ev_one (ev_chain op_le opd_B op_le opd_B ev_int (ev_len T.b_len (ea_cons (ev_var 1) ea_nil)) (ev_const T.c_MOST_STANDS)))) (ex_v ev_str ex_nil)))))
    (svs_cons (sv_for po rfl (iv_list (ev_var 0)) (gv_name (i := 3) sc_ask_net.nd) (svs_cons (sv_expr (ev_of (eo_fn g_ask_line gd hr tk (ex_v (ev_var 3) ex_nil))))
    (svs_kill (is := [3]) svs_nil)))
    (svs_cons (sv_for po rfl (iv_list (ev_var 1)) (gv_name (i := 4) sc_ask_net.nd) (svs_cons (sv_expr (ev_of (eo_fn g_ask_stand gd hr tk (ex_v (ev_var 4) (ex_v (ev_len T.b_len (ea_cons (ev_var 0) ea_nil)) (ex_v (ev_len T.b_len (ea_cons (ev_var 1) ea_nil)) ex_nil))))))
    (svs_kill (is := [4]) svs_nil)))
    (svs_cons (sv_set (i := 5) (eo_lc (own := [("stand", 4)]) rfl sc_ask_net.nd (iv_list (ev_var 1)) (blkOk_by (own := [("stand", 4)]) (N := N_ask_net) (sc := (defScope s_ask_net)) (by decide +kernel)) (fun _ _ _ _ _ => gv_name (i := 4) sc_ask_net.nd) (fun _ _ _ _ _ => ets_nil) (fun _ _ _ _ _ => ev_item (ev_var 4) ev_int)) sc_ask_net.nd)
    (svs_frz (i := 5) (svs_cons (sv_expr (ev_of (eo_fn g_ask gd hr tk (ex_v (ev_eq hr.units (ev_of (eo_lc (own := [("line", 3)]) rfl sc_ask_net.nd (iv_range1 rfl T.b_range (ea_cons (ev_len T.b_len (ea_cons (ev_var 0) ea_nil)) ea_nil)) (blkOk_by (own := [("line", 3)]) (N := N_ask_net) (sc := (defScope s_ask_net)) (by decide +kernel)) (fun _ _ _ _ _ => gv_name (i := 3) sc_ask_net.nd) (fun _ _ _ _ _ => ets_one (et_notin (ev_var 3) (ev_var 5))) (fun _ _ _ _ _ => ev_var 3))) (ev_of (eo_lst ea_nil))) (ex_v ev_str ex_nil)))))
    (svs_cons (sv_asg (ev_var 2) (gv_tup rfl (gvs_cons (gv_name (i := 6) sc_ask_net.nd) (gvs_cons (gv_name (i := 7) sc_ask_net.nd) gvs_nil))))
    (svs_cons (sv_expr (ev_of (eo_fn g_ask gd hr tk (ex_v (ev_and (ev_in (ev_var 6) (ev_tup (ea_cons (ev_const T.c_OPEN) (ea_cons (ev_const T.c_SHUT) ea_nil)))) (ev_one (ev_eq hr.units (ev_len T.b_len (ea_cons (ev_var 7) ea_nil)) (ev_len T.b_len (ea_cons (ev_var 1) ea_nil))))) (ex_v ev_str ex_nil)))))
    (svs_cons (sv_if (et_eq hr.units (ev_var 6) (ev_const T.c_OPEN)) (svs_cons (sv_expr (ev_of (eo_fn g_ask_rates gd hr tk (ex_v (ev_var 0) (ex_v (ev_var 7) ex_nil)))))
    svs_nil) (svs_cons (sv_expr (ev_of (eo_fn g_ask_counts gd hr tk (ex_v (ev_var 0) (ex_v (ev_var 1) (ex_v (ev_var 7) ex_nil))))))
    svs_nil))
    svs_nil))))))))
abbrev N_made_net : List Str := ["lines", "stands", "comers", "made", "speeds", "more", "room", "rule", "line", "rate", "goes"]
theorem sc_made_net : FnScope N_made_net ["lines", "stands", "comers"] (defScope s_made_net) := ⟨rfl, rfl, rfl, by decide +kernel, rfl, by decide +kernel, by decide +kernel⟩
theorem ok_made_net (T : Txt K mg) : Ok P w K mg base "made_net" 39 3 none Net.fn_made_net := by
  have g_ask_net := ok_ask_net (P := P) (w := w) (base := base) T
  refine ok_mk (N := N_made_net) (ps := ["lines", "stands", "comers"]) (fb := Net.fb_made_net) T.f_made_net sc_made_net (by decide) (fun _ _ _ _ _ _ us hl => match us, hl with | [_, _, _], _ => rfl) (fun f cdv A outer s H E gd hr tk po => ?_)
  exact svs_cons (sv_expr (ev_of (eo_fn g_ask_net gd hr tk (ex_v (ev_var 0) (ex_v (ev_var 1) (ex_v (ev_var 2) ex_nil))))))
    (svs_cons (sv_setLc (i := 3) (own := [("speeds", 4), ("more", 5), ("room", 6), ("rule", 7)]) rfl sc_made_net.nd (iv_list (ev_var 0)) (blkOk_by (own := [("speeds", 4), ("more", 5), ("room", 6), ("rule", 7)]) (N := N_made_net) (sc := (defScope s_made_net)) (by decide +kernel)) (fun _ _ _ _ _ => gv_tup rfl (gvs_cons (gv_name (i := 4) sc_made_net.nd) (gvs_cons (gv_name (i := 5) sc_made_net.nd) (gvs_cons (gv_name (i := 6) sc_made_net.nd) (gvs_cons (gv_name (i := 7) sc_made_net.nd) gvs_nil))))) (fun _ _ _ _ _ => ets_nil) (fun _ _ _ _ _ => ev_tup (ea_cons (ev_of (eo_listOf T.b_list (ea_cons (ev_var 4) ea_nil))) (ea_cons (ev_var 5) (ea_cons (ev_var 6) (ea_cons (ev_var 7) ea_nil))))) (sw_true rfl rfl rfl (by decide +kernel)))
    (svs_frz (i := 3) (svs_one (sv_ret (eo_of (ev_tup (ea_cons (ev_var 3) (ea_cons (ev_of (eo_lc (own := [("line", 8), ("rate", 9), ("goes", 10)]) rfl sc_made_net.nd (iv_list (ev_var 1)) (blkOk_by (own := [("line", 8), ("rate", 9), ("goes", 10)]) (N := N_made_net) (sc := (defScope s_made_net)) (by decide +kernel)) (fun _ _ _ _ _ => gv_tup rfl (gvs_cons (gv_name (i := 8) sc_made_net.nd) (gvs_cons (gv_name (i := 9) sc_made_net.nd) (gvs_cons (gv_name (i := 10) sc_made_net.nd) gvs_nil)))) (fun _ _ _ _ _ => ets_nil) (fun _ _ _ _ _ => ev_tup (ea_cons (ev_var 8) (ea_cons (ev_var 9) (ea_cons (ev_of (eo_listOf T.b_list (ea_cons (ev_var 10) ea_nil))) ea_nil)))))) (ea_cons (ev_tup (ea_cons (ev_item (ev_var 2) ev_int) (ea_cons (ev_of (eo_listOf T.b_list (ea_cons (ev_item (ev_var 2) ev_int) ea_nil))) ea_nil))) ea_nil)))))))))
abbrev N_begin_count : List Str := ["net", "stand"]
theorem sc_begin_count : FnScope N_begin_count ["net", "stand"] (defScope s_begin_count) := ⟨rfl, rfl, rfl, by decide +kernel, rfl, by decide +kernel, by decide +kernel⟩
theorem ok_begin_count (T : Txt K mg) : Ok P w K mg base "begin_count" 34 2 none Look.fn_begin_count := by
  have g_is_open := ok_is_open (P := P) (w := w) (base := base) T
  refine ok_mk (N := N_begin_count) (ps := ["net", "stand"]) (fb := Look.fb_begin_count) T.f_begin_count sc_begin_count (by decide) (fun _ _ _ _ _ _ us hl => match us, hl with | [_, _], _ => rfl) (fun f cdv A outer s H E gd hr tk po => ?_)
  exact svs_cons (sv_if (et_val (ev_of (eo_fn g_is_open gd hr tk (ex_v (ev_var 0) ex_nil)))) (svs_one (sv_ret (eo_of ev_int))) svs_nil)
    (svs_one (sv_ret (eo_of (ev_item (ev_item (ev_item (ev_var 0) ev_int) ev_int) (ev_var 1)))))
abbrev N_goals : List Str := ["net", "stand", "to", "share"]
theorem sc_goals : FnScope N_goals ["net", "stand"] (defScope s_goals) := ⟨rfl, rfl, rfl, by decide +kernel, rfl, by decide +kernel, by decide +kernel⟩
theorem ok_goals (T : Txt K mg) : Ok P w K mg base "goals" 34 2 none Look.fn_goals := by
  have g_ways_of := ok_ways_of (P := P) (w := w) (base := base) T
  refine ok_mk (N := N_goals) (ps := ["net", "stand"]) (fb := Look.fb_goals) T.f_goals sc_goals (by decide) (fun _ _ _ _ _ _ us hl => match us, hl with | [_, _], _ => rfl) (fun f cdv A outer s H E gd hr tk po => ?_)
  exact svs_one (sv_ret (eo_lc (own := [("to", 2), ("share", 3)]) rfl sc_goals.nd (iv_list (ev_of (eo_fn g_ways_of gd hr tk (ex_v (ev_var 0) (ex_v (ev_var 1) ex_nil))))) (blkOk_by (own := [("to", 2), ("share", 3)]) (N := N_goals) (sc := (defScope s_goals)) (by decide +kernel)) (fun _ _ _ _ _ => gv_tup rfl (gvs_cons (gv_name (i := 2) sc_goals.nd) (gvs_cons (gv_name (i := 3) sc_goals.nd) gvs_nil))) (fun _ _ _ _ _ => ets_nil) (fun _ _ _ _ _ => ev_var 2)))
abbrev N_steps_to : List Str := ["net", "starts", "found", "stand", "waiting", "at", "to"]
theorem sc_steps_to : FnScope N_steps_to ["net", "starts"] (defScope s_steps_to) := ⟨rfl, rfl, rfl, by decide +kernel, rfl, by decide +kernel, by decide +kernel⟩
theorem ok_steps_to (T : Txt K mg) : Ok P w K mg base "steps_to" 35 2 none Look.fn_steps_to := by
  have g_goals := ok_goals (P := P) (w := w) (base := base) T
  refine ok_mk (N := N_steps_to) (ps := ["net", "starts"]) (fb := Look.fb_steps_to) T.f_steps_to sc_steps_to (by decide) (fun _ _ _ _ _ _ us hl => match us, hl with | [_, _], _ => rfl) (fun f cdv A outer s H E gd hr tk po => ?_)
  exact svs_cons (sv_set (i := 2) eo_dnew sc_steps_to.nd)
    (svs_cons (sv_for po rfl (iv_list (ev_var 1)) (gv_name (i := 3) sc_steps_to.nd) (svs_cons (sv_dput (i := 2) hr.units ev_int (ev_var 3))
    (svs_kill (is := [3]) svs_nil)))
    (svs_cons (sv_set (i := 4) (eo_listOf T.b_list (ea_cons (ev_var 1) ea_nil)) sc_steps_to.nd)
    (svs_cons (sv_set (i := 5) (eo_of ev_int) sc_steps_to.nd)
    (svs_cons (sv_while po (et_lt (ev_var 5) (ev_lenL (i := 4) T.b_len)) (svs_cons (sv_set (i := 3) (eo_of (ev_peek (i := 4) (ev_var 5))) sc_steps_to.nd)
    (svs_cons (sv_for po rfl (iv_list (ev_of (eo_fn g_goals gd hr tk (ex_v (ev_var 0) (ex_v (ev_var 3) ex_nil))))) (gv_name (i := 6) sc_steps_to.nd) (svs_cons (sv_if (et_dnotin (i := 2) hr.units (ev_var 6)) (svs_cons (sv_dput (i := 2) hr.units (ev_add (ev_dget (i := 2) hr.units (ev_var 3)) ev_int) (ev_var 6))
    (svs_cons (sv_app (i := 4) (ev_var 6))
    svs_nil)) svs_nil)
    (svs_kill (is := [6]) svs_nil)))
    (svs_cons (sv_augI (i := 5) ip_add ev_int sc_steps_to.nd)
    (svs_kill (is := [3]) svs_nil)))))
    (svs_one (sv_ret (eo_move 2)))))))
abbrev N_can_go : List Str := ["net", "stand"]
theorem sc_can_go : FnScope N_can_go ["net", "stand"] (defScope s_can_go) := ⟨rfl, rfl, rfl, by decide +kernel, rfl, by decide +kernel, by decide +kernel⟩
theorem ok_can_go (T : Txt K mg) : Ok P w K mg base "can_go" 36 2 none Look.fn_can_go := by
  have g_steps_to := ok_steps_to (P := P) (w := w) (base := base) T
  refine ok_mk (N := N_can_go) (ps := ["net", "stand"]) (fb := Look.fb_can_go) T.f_can_go sc_can_go (by decide) (fun _ _ _ _ _ _ us hl => match us, hl with | [_, _], _ => rfl) (fun f cdv A outer s H E gd hr tk po => ?_)
  exact svs_one (sv_ret (eo_sortI T.b_sorted (ea_cons (ev_of (eo_listD rfl T.b_list (ea_cons (ev_of (eo_fn g_steps_to gd hr tk (ex_v (ev_var 0) (ex_v (ev_of (eo_lst (ea_cons (ev_var 1) ea_nil))) ex_nil)))) ea_nil))) ea_nil)))
abbrev N_starts_of : List Str := ["net", "found", "stand"]
theorem sc_starts_of : FnScope N_starts_of ["net"] (defScope s_starts_of) := ⟨rfl, rfl, rfl, by decide +kernel, rfl, by decide +kernel, by decide +kernel⟩
theorem ok_starts_of (T : Txt K mg) : Ok P w K mg base "starts_of" 35 1 none Look.fn_starts_of := by
  have g_stands_of := ok_stands_of (P := P) (w := w) (base := base) T
  have g_from_outside := ok_from_outside (P := P) (w := w) (base := base) T
  have g_begin_count := ok_begin_count (P := P) (w := w) (base := base) T
  refine ok_mk (N := N_starts_of) (ps := ["net"]) (fb := Look.fb_starts_of) T.f_starts_of sc_starts_of (by decide) (fun _ _ _ _ _ _ us hl => match us, hl with | [_], _ => rfl) (fun f cdv A outer s H E gd hr tk po => ?_)
  exact svs_cons (sv_set (i := 1) (eo_lst ea_nil) sc_starts_of.nd)
    (svs_cons (sv_for po rfl (iv_range1 rfl T.b_range (ea_cons (ev_len T.b_len (ea_cons (ev_of (eo_fn g_stands_of gd hr tk (ex_v (ev_var 0) ex_nil))) ea_nil)) ea_nil)) (gv_name (i := 2) sc_starts_of.nd) (svs_cons (sv_if (et_w (ew_or (et_ne hr.units (ev_of (eo_fn g_from_outside gd hr tk (ex_v (ev_var 0) (ex_v (ev_var 2) ex_nil)))) (ev_const T.c_NOUGHT)) (ew_or1 (et_gt (ev_of (eo_fn g_begin_count gd hr tk (ex_v (ev_var 0) (ex_v (ev_var 2) ex_nil)))) ev_int)))) (svs_cons (sv_app (i := 1) (ev_var 2))
    svs_nil) svs_nil)
    (svs_kill (is := [2]) svs_nil)))
    (svs_one (sv_ret (eo_move 1))))
abbrev N_reached : List Str := ["net"]
theorem sc_reached : FnScope N_reached ["net"] (defScope s_reached) := ⟨rfl, rfl, rfl, by decide +kernel, rfl, by decide +kernel, by decide +kernel⟩
theorem ok_reached (T : Txt K mg) : Ok P w K mg base "reached" 36 1 none Look.fn_reached := by
  have g_steps_to := ok_steps_to (P := P) (w := w) (base := base) T
  have g_starts_of := ok_starts_of (P := P) (w := w) (base := base) T
  refine ok_mk (N := N_reached) (ps := ["net"]) (fb := Look.fb_reached) T.f_reached sc_reached (by decide) (fun _ _ _ _ _ _ us hl => match us, hl with | [_], _ => rfl) (fun f cdv A outer s H E gd hr tk po => ?_)
  exact svs_one (sv_ret (eo_sortI T.b_sorted (ea_cons (ev_of (eo_listD rfl T.b_list (ea_cons (ev_of (eo_fn g_steps_to gd hr tk (ex_v (ev_var 0) (ex_v (ev_of (eo_fn g_starts_of gd hr tk (ex_v (ev_var 0) ex_nil))) ex_nil)))) ea_nil))) ea_nil)))
abbrev N_may_leave : List Str := ["net", "stand", "to"]
theorem sc_may_leave : FnScope N_may_leave ["net", "stand"] (defScope s_may_leave) := ⟨rfl, rfl, rfl, by decide +kernel, rfl, by decide +kernel, by decide +kernel⟩
theorem ok_may_leave (T : Txt K mg) : Ok P w K mg base "may_leave" 38 2 none Look.fn_may_leave := by
  have g_can_go := ok_can_go (P := P) (w := w) (base := base) T
  have g_left_over := ok_left_over (P := P) (w := w) (base := base) T
  refine ok_mk (N := N_may_leave) (ps := ["net", "stand"]) (fb := Look.fb_may_leave) T.f_may_leave sc_may_leave (by decide) (fun _ _ _ _ _ _ us hl => match us, hl with | [_, _], _ => rfl) (fun f cdv A outer s H E gd hr tk po => ?_)
  exact svs_one (sv_ret (eo_of (ev_ne hr.units (ev_of (eo_lc (own := [("to", 2)]) rfl sc_may_leave.nd (iv_list (ev_of (eo_fn g_can_go gd hr tk (ex_v (ev_var 0) (ex_v (ev_var 1) ex_nil))))) (blkOk_by (own := [("to", 2)]) (N := N_may_leave) (sc := (defScope s_may_leave)) (by decide +kernel)) (fun _ _ _ _ _ => gv_name (i := 2) sc_may_leave.nd) (fun _ _ _ _ _ => ets_one (et_ne hr.units (ev_of (eo_fn g_left_over gd hr takes0 (ex_v (ev_var 0) (ex_v (ev_var 2) ex_nil)))) (ev_const T.c_NOUGHT))) (fun _ _ _ _ _ => ev_var 2))) (ev_of (eo_lst ea_nil)))))
abbrev N_staying : List Str := ["net", "stand"]
theorem sc_staying : FnScope N_staying ["net"] (defScope s_staying) := ⟨rfl, rfl, rfl, by decide +kernel, rfl, by decide +kernel, by decide +kernel⟩
theorem ok_staying (T : Txt K mg) : Ok P w K mg base "staying" 39 1 none Look.fn_staying := by
  have g_is_open := ok_is_open (P := P) (w := w) (base := base) T
  have g_stands_of := ok_stands_of (P := P) (w := w) (base := base) T
  have g_may_leave := ok_may_leave (P := P) (w := w) (base := base) T
  refine ok_mk (N := N_staying) (ps := ["net"]) (fb := Look.fb_staying) T.f_staying sc_staying (by decide) (fun _ _ _ _ _ _ us hl => match us, hl with | [_], _ => rfl) (fun f cdv A outer s H E gd hr tk po => ?_)
  exact svs_cons (sv_if (et_not (et_val (ev_of (eo_fn g_is_open gd hr tk (ex_v (ev_var 0) ex_nil))))) (svs_one (sv_ret (eo_lst ea_nil))) svs_nil)
    (svs_one (sv_ret (eo_lc (own := [("stand", 1)]) rfl sc_staying.nd (iv_range1 rfl T.b_range (ea_cons (ev_len T.b_len (ea_cons (ev_of (eo_fn g_stands_of gd hr tk (ex_v (ev_var 0) ex_nil))) ea_nil)) ea_nil)) (blkOk_by (own := [("stand", 1)]) (N := N_staying) (sc := (defScope s_staying)) (by decide +kernel)) (fun _ _ _ _ _ => gv_name (i := 1) sc_staying.nd) (fun _ _ _ _ _ => ets_one (et_not (et_val (ev_of (eo_fn g_may_leave gd hr takes0 (ex_v (ev_var 0) (ex_v (ev_var 1) ex_nil))))))) (fun _ _ _ _ _ => ev_var 1))))
abbrev N_one_way : List Str := ["net", "found", "stand", "to"]
theorem sc_one_way : FnScope N_one_way ["net"] (defScope s_one_way) := ⟨rfl, rfl, rfl, by decide +kernel, rfl, by decide +kernel, by decide +kernel⟩
theorem ok_one_way (T : Txt K mg) : Ok P w K mg base "one_way" 37 1 none Look.fn_one_way := by
  have g_stands_of := ok_stands_of (P := P) (w := w) (base := base) T
  have g_goals := ok_goals (P := P) (w := w) (base := base) T
  have g_can_go := ok_can_go (P := P) (w := w) (base := base) T
  refine ok_mk (N := N_one_way) (ps := ["net"]) (fb := Look.fb_one_way) T.f_one_way sc_one_way (by decide) (fun _ _ _ _ _ _ us hl => match us, hl with | [_], _ => rfl) (fun f cdv A outer s H E gd hr tk po => ?_)
  exact svs_cons (sv_set (i := 1) (eo_lst ea_nil) sc_one_way.nd)
    (svs_cons (sv_for po rfl (iv_range1 rfl T.b_range (ea_cons (ev_len T.b_len (ea_cons (ev_of (eo_fn g_stands_of gd hr tk (ex_v (ev_var 0) ex_nil))) ea_nil)) ea_nil)) (gv_name (i := 2) sc_one_way.nd) (svs_cons (sv_for po rfl (iv_list (ev_of (eo_fn g_goals gd hr tk (ex_v (ev_var 0) (ex_v (ev_var 2) ex_nil))))) (gv_name (i := 3) sc_one_way.nd) (svs_cons (sv_if (et_notin (ev_var 2) (ev_of (eo_fn g_can_go gd hr tk (ex_v (ev_var 0) (ex_v (ev_var 3) ex_nil))))) (svs_cons (sv_app (i := 1) (ev_tup (ea_cons (ev_var 2) (ea_cons (ev_var 3) ea_nil))))
    svs_nil) svs_nil)
    (svs_kill (is := [3]) svs_nil)))
    (svs_kill (is := [2]) svs_nil)))
    (svs_one (sv_ret (eo_move 1))))
abbrev N_is_sound : List Str := ["net"]
theorem sc_is_sound : FnScope N_is_sound ["net"] (defScope s_is_sound) := ⟨rfl, rfl, rfl, by decide +kernel, rfl, by decide +kernel, by decide +kernel⟩
theorem ok_is_sound (T : Txt K mg) : Ok P w K mg base "is_sound" 40 1 none Look.fn_is_sound := by
  have g_is_open := ok_is_open (P := P) (w := w) (base := base) T
  have g_reached := ok_reached (P := P) (w := w) (base := base) T
  have g_stands_of := ok_stands_of (P := P) (w := w) (base := base) T
  have g_staying := ok_staying (P := P) (w := w) (base := base) T
  have g_one_way := ok_one_way (P := P) (w := w) (base := base) T
  refine ok_mk (N := N_is_sound) (ps := ["net"]) (fb := Look.fb_is_sound) T.f_is_sound sc_is_sound (by decide) (fun _ _ _ _ _ _ us hl => match us, hl with | [_], _ => rfl) (fun f cdv A outer s H E gd hr tk po => ?_)
  exact svs_cons (sv_if (et_val (ev_of (eo_fn g_is_open gd hr tk (ex_v (ev_var 0) ex_nil)))) (svs_one (sv_ret (eo_of (ev_and (ev_eq hr.units (ev_len T.b_len (ea_cons (ev_of (eo_fn g_reached gd hr tk (ex_v (ev_var 0) ex_nil))) ea_nil)) (ev_len T.b_len (ea_cons (ev_of (eo_fn g_stands_of gd hr tk (ex_v (ev_var 0) ex_nil))) ea_nil))) (ev_one (ev_eq hr.units (ev_of (eo_fn g_staying gd hr tk (ex_v (ev_var 0) ex_nil))) (ev_of (eo_lst ea_nil)))))))) svs_nil)
    (svs_one (sv_ret (eo_of (ev_eq hr.units (ev_of (eo_fn g_one_way gd hr tk (ex_v (ev_var 0) ex_nil))) (ev_of (eo_lst ea_nil))))))
abbrev N_ask_sound : List Str := ["net"]
theorem sc_ask_sound : FnScope N_ask_sound ["net"] (defScope s_ask_sound) := ⟨rfl, rfl, rfl, by decide +kernel, rfl, by decide +kernel, by decide +kernel⟩
theorem ok_ask_sound (T : Txt K mg) : Ok P w K mg base "ask_sound" 41 1 none Look.fn_ask_sound := by
  have g_is_sound := ok_is_sound (P := P) (w := w) (base := base) T
  refine ok_mk (N := N_ask_sound) (ps := ["net"]) (fb := Look.fb_ask_sound) T.f_ask_sound sc_ask_sound (by decide) (fun _ _ _ _ _ _ us hl => match us, hl with | [_], _ => rfl) (fun f cdv A outer s H E gd hr tk po => ?_)
  exact svs_cons (sv_if (et_not (et_val (ev_of (eo_fn g_is_sound gd hr tk (ex_v (ev_var 0) ex_nil))))) (svs_one (sv_raise rfl tk T.x_Unsound)) svs_nil)
    svs_nil
abbrev N_crowd_of : List Str := ["net", "found", "least", "stand", "first"]
theorem sc_crowd_of : FnScope N_crowd_of ["net"] (defScope s_crowd_of) := ⟨rfl, rfl, rfl, by decide +kernel, rfl, by decide +kernel, by decide +kernel⟩
theorem ok_crowd_of (T : Txt K mg) : Ok P w K mg base "crowd_of" 37 1 none Look.fn_crowd_of := by
  have g_stands_of := ok_stands_of (P := P) (w := w) (base := base) T
  have g_can_go := ok_can_go (P := P) (w := w) (base := base) T
  refine ok_mk (N := N_crowd_of) (ps := ["net"]) (fb := Look.fb_crowd_of) T.f_crowd_of sc_crowd_of (by decide) (fun _ _ _ _ _ _ us hl => match us, hl with | [_], _ => rfl) (fun f cdv A outer s H E gd hr tk po => ?_)
  exact svs_cons (sv_set (i := 1) (eo_lst ea_nil) sc_crowd_of.nd)
    (svs_cons (sv_set (i := 2) (eo_lst ea_nil) sc_crowd_of.nd)
    (svs_cons (sv_for po rfl (iv_range1 rfl T.b_range (ea_cons (ev_len T.b_len (ea_cons (ev_of (eo_fn g_stands_of gd hr tk (ex_v (ev_var 0) ex_nil))) ea_nil)) ea_nil)) (gv_name (i := 3) sc_crowd_of.nd) (svs_cons (sv_set (i := 4) (eo_of (ev_item (ev_of (eo_fn g_can_go gd hr tk (ex_v (ev_var 0) (ex_v (ev_var 3) ex_nil)))) ev_int)) sc_crowd_of.nd)
    (svs_cons (sv_if (et_eq hr.units (ev_var 4) (ev_var 3)) (svs_cons (sv_app (i := 2) (ev_var 3))
    svs_nil) svs_nil)
    (svs_cons (sv_app (i := 1) (ev_indexL (i := 2) (ev_var 4)))
    (svs_kill (is := [3, 4]) svs_nil)))))
    (svs_one (sv_ret (eo_move 1)))))
abbrev N_crowd_stands : List Str := ["net", "numbers", "found", "stand", "number"]
theorem sc_crowd_stands : FnScope N_crowd_stands ["net"] (defScope s_crowd_stands) := ⟨rfl, rfl, rfl, by decide +kernel, rfl, by decide +kernel, by decide +kernel⟩
theorem ok_crowd_stands (T : Txt K mg) : Ok P w K mg base "crowd_stands" 38 1 none Look.fn_crowd_stands := by
  have g_crowd_of := ok_crowd_of (P := P) (w := w) (base := base) T
  refine ok_mk (N := N_crowd_stands) (ps := ["net"]) (fb := Look.fb_crowd_stands) T.f_crowd_stands sc_crowd_stands (by decide) (fun _ _ _ _ _ _ us hl => match us, hl with | [_], _ => rfl) (fun f cdv A outer s H E gd hr tk po => ?_)
  exact svs_cons (sv_set (i := 1) (eo_fn g_crowd_of gd hr tk (ex_v (ev_var 0) ex_nil)) sc_crowd_stands.nd)
    (svs_frz (i := 1) (svs_cons (sv_setLcD (i := 2) (own := [("number", 4)]) rfl sc_crowd_stands.nd (iv_range1 rfl T.b_range (ea_cons (ev_add (ev_maxL rfl T.b_max (ea_cons (ev_var 1) ea_nil)) ev_int) ea_nil)) (blkOk_by (own := [("number", 4)]) (N := N_crowd_stands) (sc := (defScope s_crowd_stands)) (by decide +kernel)) (fun _ _ _ _ _ => gv_name (i := 4) sc_crowd_stands.nd) (fun _ _ _ _ _ => ets_nil) (fun _ _ _ _ _ => eo_lst ea_nil) (sw_true rfl rfl rfl (by decide +kernel)))
    (svs_cons (sv_for po rfl (iv_enum T.b_enumerate (ea_cons (ev_var 1) ea_nil)) (gv_tup rfl (gvs_cons (gv_name (i := 3) sc_crowd_stands.nd) (gvs_cons (gv_name (i := 4) sc_crowd_stands.nd) gvs_nil))) (svs_cons (sv_deepApp (i := 2) (ep_ix (ep_var 2) (ev_var 4)) (ev_var 3))
    (svs_kill (is := [3, 4]) svs_nil)))
    (svs_one (sv_ret (eo_of (ev_var 2)))))))
theorem ok_crowd_stands__o (T : Txt K mg) : Ok P w K mg base "crowd_stands" 38 1 none fn_crowd_stands__o := by
  have g_crowd_of := ok_crowd_of (P := P) (w := w) (base := base) T
  refine ok_mk (N := N_crowd_stands) (ps := ["net"]) (fb := fb_crowd_stands__o) T.f_crowd_stands sc_crowd_stands (by decide) (fun _ _ _ _ _ _ us hl => match us, hl with | [_], _ => rfl) (fun f cdv A outer s H E gd hr tk po => ?_)
  exact svs_cons (sv_set (i := 1) (eo_fn g_crowd_of gd hr tk (ex_v (ev_var 0) ex_nil)) sc_crowd_stands.nd)
    (svs_frz (i := 1) (svs_cons (sv_setLcD (i := 2) (own := [("number", 4)]) rfl sc_crowd_stands.nd (iv_range1 rfl T.b_range (ea_cons (ev_add (ev_maxL rfl T.b_max (ea_cons (ev_var 1) ea_nil)) ev_int) ea_nil)) (blkOk_by (own := [("number", 4)]) (N := N_crowd_stands) (sc := (defScope s_crowd_stands)) (by decide +kernel)) (fun _ _ _ _ _ => gv_name (i := 4) sc_crowd_stands.nd) (fun _ _ _ _ _ => ets_nil) (fun _ _ _ _ _ => eo_lst ea_nil) (sw_true rfl rfl rfl (by decide +kernel)))
    (svs_cons (sv_for po rfl (iv_enum T.b_enumerate (ea_cons (ev_var 1) ea_nil)) (gv_tup rfl (gvs_cons (gv_name (i := 3) sc_crowd_stands.nd) (gvs_cons (gv_name (i := 4) sc_crowd_stands.nd) gvs_nil))) (svs_cons (sv_deepApp (i := 2) (ep_ix (ep_var 2) (ev_var 4)) (ev_var 3))
    (svs_kill (is := [3, 4]) svs_nil)))
    (svs_one (sv_ret (eo_move 2))))))
abbrev N_crowds : List Str := ["net", "stands", "stand"]
theorem sc_crowds : FnScope N_crowds ["net"] (defScope s_crowds) := ⟨rfl, rfl, rfl, by decide +kernel, rfl, by decide +kernel, by decide +kernel⟩
theorem ok_crowds (T : Txt K mg) : Ok P w K mg base "crowds" 42 1 none fn_crowds := by
  have g_ask_sound := ok_ask_sound (P := P) (w := w) (base := base) T
  have g_is_open := ok_is_open (P := P) (w := w) (base := base) T
  have g_crowd_stands := ok_crowd_stands (P := P) (w := w) (base := base) T
  have g_begin_count := ok_begin_count (P := P) (w := w) (base := base) T
  refine ok_mk (N := N_crowds) (ps := ["net"]) (fb := fb_crowds) T.f_crowds sc_crowds (by decide) (fun _ _ _ _ _ _ us hl => match us, hl with | [_], _ => rfl) (fun f cdv A outer s H E gd hr tk po => ?_)
  exact svs_cons (sv_expr (ev_of (eo_fn g_ask_sound gd hr tk (ex_v (ev_var 0) ex_nil))))
    (svs_cons (sv_if (et_val (ev_of (eo_fn g_is_open gd hr tk (ex_v (ev_var 0) ex_nil)))) (svs_one (sv_raise rfl tk T.x_OtherNet)) svs_nil)
    (svs_one (sv_ret (eo_lc (own := [("stands", 1)]) rfl sc_crowds.nd (iv_list (ev_of (eo_fn g_crowd_stands gd hr tk (ex_v (ev_var 0) ex_nil)))) (blkOk_by (own := [("stands", 1)]) (N := N_crowds) (sc := (defScope s_crowds)) (by decide +kernel)) (fun _ _ _ _ _ => gv_name (i := 1) sc_crowds.nd) (fun _ _ _ _ _ => ets_nil) (fun _ _ _ _ _ => ev_tup (ea_cons (ev_var 1) (ea_cons (ev_sum rfl T.b_sum (ea_cons (ev_of (eo_lc (own := [("stand", 2)]) rfl sc_crowds.nd (iv_list (ev_var 1)) (blkOk_by (own := [("stand", 2)]) (by dsimp only [L2.Cx.blk, compEnvC, cxOf, envOfC, relabel_eq]; decide +kernel)) (fun _ _ _ _ _ => gv_name (i := 2) sc_crowds.nd) (fun _ _ _ _ _ => ets_nil) (fun _ _ _ _ _ => ev_of (eo_fn g_begin_count gd hr takes0 (ex_v (ev_var 0) (ex_v (ev_var 2) ex_nil)))))) ea_nil)) ea_nil)))))))
theorem ok_crowds__o (T : Txt K mg) : Ok P w K mg base "crowds" 42 1 none fn_crowds__o := by
  have g_ask_sound := ok_ask_sound (P := P) (w := w) (base := base) T
  have g_is_open := ok_is_open (P := P) (w := w) (base := base) T
  have g_crowd_stands__o := ok_crowd_stands__o (P := P) (w := w) (base := base) T
  have g_begin_count := ok_begin_count (P := P) (w := w) (base := base) T
  refine ok_mk (N := N_crowds) (ps := ["net"]) (fb := fb_crowds__o) T.f_crowds sc_crowds (by decide) (fun _ _ _ _ _ _ us hl => match us, hl with | [_], _ => rfl) (fun f cdv A outer s H E gd hr tk po => ?_)
  exact svs_cons (sv_expr (ev_of (eo_fn g_ask_sound gd hr tk (ex_v (ev_var 0) ex_nil))))
    (svs_cons (sv_if (et_val (ev_of (eo_fn g_is_open gd hr tk (ex_v (ev_var 0) ex_nil)))) (svs_one (sv_raise rfl tk T.x_OtherNet)) svs_nil)
    (svs_one (sv_ret (eo_lcV (own := [("stands", 1)]) (i := 1) rfl sc_crowds.nd (eo_fn g_crowd_stands__o gd hr tk (ex_v (ev_var 0) ex_nil)) (blkOk_by (own := [("stands", 1)]) (N := N_crowds) (sc := (defScope s_crowds)) (by decide +kernel)) (fun _ _ _ _ _ => pg_name (i := 1) sc_crowds.nd rfl (by first | exact Or.inl rfl | exact Or.inr rfl)) (fun _ _ _ _ _ => eo_tupO (eao_s 1 (eao_f (ev_th 1 (ev_sum rfl T.b_sum (ea_cons (ev_of (eo_lc (own := [("stand", 2)]) rfl sc_crowds.nd (iv_list (ev_var 1)) (blkOk_by (own := [("stand", 2)]) (by dsimp only [L2.Cx.blk, compEnvC, cxOf, envOfC, relabel_eq]; decide +kernel)) (fun _ _ _ _ _ => gv_name (i := 2) sc_crowds.nd) (fun _ _ _ _ _ => ets_nil) (fun _ _ _ _ _ => ev_of (eo_fn g_begin_count gd hr takes0 (ex_v (ev_var 0) (ex_v (ev_var 2) ex_nil)))))) ea_nil))) eao_nil)))))))
theorem sc__law_stream : FnScope ["_law_script", "_law_k", "_law_cell", "_law_mixed"] ["_law_script", "_law_k"] (defScope s__law_stream) := ⟨rfl, rfl, rfl, by decide +kernel, rfl, by decide +kernel, by decide +kernel⟩
theorem ok__law_stream {P : Program} {w : World} {K : PySem.W.Frag} {mg : Str → Option Value} {base : Heap} (T : Txt K mg) : Ok P w K mg base "_law_stream" 33 2 none Std.fn__law_stream := by
  refine ok_mk (N := ["_law_script", "_law_k", "_law_cell", "_law_mixed"]) (ps := ["_law_script", "_law_k"]) (fb := Std.fb__law_stream) T.f__law_stream sc__law_stream (by decide) (fun _ _ _ _ _ _ us hl => match us, hl with | [_, _], _ => rfl) (fun f cdv A outer s H E gd hr tk po => ?_)
  exact svs_cons (sv_if (et_lt (ev_var 1) (ev_len T.b_len (ea_cons (ev_var 0) ea_nil))) (svs_cons (sv_set (i := 2) (eo_of (ev_item (ev_var 0) (ev_var 1))) sc__law_stream.nd)
    (svs_cons (sv_set (i := 3) (eo_of (ev_add (ev_add (ev_mod (ev_var 2) ev_int) (ev_mul (ev_var 1) (ev_var 1))) ev_int)) sc__law_stream.nd)
    (svs_cons (sv_if (et_lt (ev_var 2) (ev_pow ev_int ev_int)) (svs_one (sv_set (i := 2) (eo_of ev_int) sc__law_stream.nd)) svs_nil)
    (svs_one (sv_ret (eo_lst (ea_cons (ev_var 2) (ea_cons (ev_var 3) ea_nil)))))))) svs_nil)
    (svs_one (sv_ret (eo_lst (ea_cons ev_int (ea_cons (ev_add (ev_mul (ev_var 1) (ev_var 1)) ev_int) ea_nil)))))
theorem sc__law_take : FnScope ["_law_stream_here", "_law_most", "_law_digit"] ["_law_stream_here", "_law_most"] (defScope s__law_take) := ⟨rfl, rfl, rfl, by decide +kernel, rfl, by decide +kernel, by decide +kernel⟩
theorem ok__law_take {P : Program} {w : World} {K : PySem.W.Frag} {mg : Str → Option Value} {base : Heap} (T : Txt K mg) : Ok P w K mg base "_law_take" 33 2 (some 0) Std.fn__law_take := by
  refine ok_mk (N := ["_law_stream_here", "_law_most", "_law_digit"]) (ps := ["_law_stream_here", "_law_most"]) (fb := Std.fb__law_take) T.f__law_take sc__law_take (by decide) (fun _ _ _ _ _ _ us hl => match us, hl with | [_, _], _ => rfl) (fun f cdv A outer s H E gd hr tk po => ?_)
  exact svs_cons (sv_if (et_eq hr.units (ev_peek (i := 0) ev_int) ev_int) (svs_cons (sv_putAt (i := 0) (ev_mod (ev_add (ev_mul (ev_peek (i := 0) ev_int) ev_int) ev_int) ev_int) ev_int)
    (svs_one (sv_ret (eo_of (ev_mod (ev_mod (ev_mul (ev_peek (i := 0) ev_int) (ev_peek (i := 0) ev_int)) ev_int) (ev_var 1)))))) svs_nil)
    (svs_cons (sv_set (i := 2) (eo_of (ev_mod (ev_peek (i := 0) ev_int) (ev_var 1))) sc__law_take.nd)
    (svs_cons (sv_putAt (i := 0) (ev_fdiv gd hr (by decide) (ev_peek (i := 0) ev_int) (ev_var 1)) ev_int)
    (svs_one (sv_ret (eo_move 2)))))
theorem sc__law_fraction : FnScope ["_law_above", "_law_below", "_law_one", "_law_other"] ["_law_above", "_law_below"] (defScope s__law_fraction) := ⟨rfl, rfl, rfl, by decide +kernel, rfl, by decide +kernel, by decide +kernel⟩
theorem ok__law_fraction {P : Program} {w : World} {K : PySem.W.Frag} {mg : Str → Option Value} {base : Heap} (T : Txt K mg) : Ok P w K mg base "_law_fraction" 33 2 none Std.fn__law_fraction := by
  refine ok_mk (N := ["_law_above", "_law_below", "_law_one", "_law_other"]) (ps := ["_law_above", "_law_below"]) (fb := Std.fb__law_fraction) T.f__law_fraction sc__law_fraction (by decide) (fun _ _ _ _ _ _ us hl => match us, hl with | [_, _], _ => rfl) (fun f cdv A outer s H E gd hr tk po => ?_)
  exact svs_cons (sv_set (i := 2) (eo_of (ev_abs T.b_abs (ea_cons (ev_var 0) ea_nil))) sc__law_fraction.nd)
    (svs_cons (sv_set (i := 3) (eo_of (ev_var 1)) sc__law_fraction.nd)
    (svs_cons (sv_while po (et_gt (ev_var 3) ev_int) (svs_one (sv_par (i := 2) (j := 3) rfl sc__law_fraction.nd (ea_cons (ev_var 3) (ea_cons (ev_mod (ev_var 2) (ev_var 3)) ea_nil)))))
    (svs_one (sv_ret (eo_of (ev_tup (ea_cons (ev_fdiv gd hr (by decide) (ev_var 0) (ev_var 2)) (ea_cons (ev_fdiv gd hr (by decide) (ev_var 1) (ev_var 2)) ea_nil))))))))
abbrev N__law_crowds : List Str := ["_law_stream_here", "_law_stands", "_law_many", "_law_found", "_law_s", "_law_k", "_law_crowd"]
theorem sc__law_crowds : FnScope N__law_crowds ["_law_stream_here", "_law_stands"] (defScope s__law_crowds) := ⟨rfl, rfl, rfl, by decide +kernel, rfl, by decide +kernel, by decide +kernel⟩
theorem ok__law_crowds (T : Txt K mg) : Ok P w K mg base "_law_crowds" 34 2 (some 0) fn__law_crowds := by
  have g__law_take := ok__law_take (P := P) (w := w) (base := base) T
  refine ok_mk (N := N__law_crowds) (ps := ["_law_stream_here", "_law_stands"]) (fb := fb__law_crowds) T.f__law_crowds sc__law_crowds (by decide) (fun _ _ _ _ _ _ us hl => match us, hl with | [_, _], _ => rfl) (fun f cdv A outer s H E gd hr tk po => ?_)
  exact svs_cons (sv_set (i := 2) (eo_of (ev_add ev_int (ev_of (eo_fn g__law_take gd hr tk (ex_s 0 (ex_v ev_int ex_nil)))))) sc__law_crowds.nd)
    (svs_cons (sv_setLcD (i := 3) (own := [("_law_k", 5)]) rfl sc__law_crowds.nd (iv_range1 rfl T.b_range (ea_cons (ev_var 2) ea_nil)) (blkOk_by (own := [("_law_k", 5)]) (N := N__law_crowds) (sc := (defScope s__law_crowds)) (by decide +kernel)) (fun _ _ _ _ _ => gv_name (i := 5) sc__law_crowds.nd) (fun _ _ _ _ _ => ets_nil) (fun _ _ _ _ _ => eo_lst ea_nil) (sw_true rfl rfl rfl (by decide +kernel)))
    (svs_cons (sv_for po rfl (iv_range1 rfl T.b_range (ea_cons (ev_var 1) ea_nil)) (gv_name (i := 4) sc__law_crowds.nd) (svs_cons (sv_deepApp (i := 3) (ep_ix (ep_var 3) (ev_of (eo_fn g__law_take gd hr tk (ex_s 0 (ex_v (ev_var 2) ex_nil))))) (ev_var 4))
    (svs_kill (is := [4]) svs_nil)))
    (svs_frz (i := 3) (svs_one (sv_ret (eo_lc (own := [("_law_crowd", 6)]) rfl sc__law_crowds.nd (iv_list (ev_var 3)) (blkOk_by (own := [("_law_crowd", 6)]) (N := N__law_crowds) (sc := (defScope s__law_crowds)) (by decide +kernel)) (fun _ _ _ _ _ => gv_name (i := 6) sc__law_crowds.nd) (fun _ _ _ _ _ => ets_one (et_ne hr.units (ev_var 6) (ev_of (eo_lst ea_nil)))) (fun _ _ _ _ _ => ev_var 6)))))))
abbrev N__law_ring : List Str := ["_law_stream_here", "_law_crowd", "_law_left", "_law_found"]
theorem sc__law_ring : FnScope N__law_ring ["_law_stream_here", "_law_crowd"] (defScope s__law_ring) := ⟨rfl, rfl, rfl, by decide +kernel, rfl, by decide +kernel, by decide +kernel⟩
theorem ok__law_ring (T : Txt K mg) : Ok P w K mg base "_law_ring" 34 2 (some 0) fn__law_ring := by
  have g__law_take := ok__law_take (P := P) (w := w) (base := base) T
  refine ok_mk (N := N__law_ring) (ps := ["_law_stream_here", "_law_crowd"]) (fb := fb__law_ring) T.f__law_ring sc__law_ring (by decide) (fun _ _ _ _ _ _ us hl => match us, hl with | [_, _], _ => rfl) (fun f cdv A outer s H E gd hr tk po => ?_)
  exact svs_cons (sv_set (i := 2) (eo_listOf T.b_list (ea_cons (ev_var 1) ea_nil)) sc__law_ring.nd)
    (svs_cons (sv_set (i := 3) (eo_lst ea_nil) sc__law_ring.nd)
    (svs_cons (sv_while po (et_cmpL (i := 2) (op_ne.or (op_neD hr.units)) opd_ne (ev_of (eo_lst ea_nil))) (svs_cons (sv_app (i := 3) (ev_popAt (i := 2) (ev_of (eo_fn g__law_take gd hr tk (ex_s 0 (ex_v (ev_lenL (i := 2) T.b_len) ex_nil))))))
    svs_nil))
    (svs_one (sv_ret (eo_move 3)))))
abbrev N__law_goes : List Str := ["_law_stream_here", "_law_crowd", "_law_ring_here", "_law_stand", "_law_following", "_law_some", "_law_parts", "_law_to", "_law_bit"]
theorem sc__law_goes : FnScope N__law_goes ["_law_stream_here", "_law_crowd", "_law_ring_here", "_law_stand"] (defScope s__law_goes) := ⟨rfl, rfl, rfl, by decide +kernel, rfl, by decide +kernel, by decide +kernel⟩
theorem ok__law_goes (T : Txt K mg) : Ok P w K mg base "_law_goes" 34 4 (some 0) fn__law_goes := by
  have g__law_take := ok__law_take (P := P) (w := w) (base := base) T
  have g__law_fraction := ok__law_fraction (P := P) (w := w) (base := base) T
  refine ok_mk (N := N__law_goes) (ps := ["_law_stream_here", "_law_crowd", "_law_ring_here", "_law_stand"]) (fb := fb__law_goes) T.f__law_goes sc__law_goes (by decide) (fun _ _ _ _ _ _ us hl => match us, hl with | [_, _, _, _], _ => rfl) (fun f cdv A outer s H E gd hr tk po => ?_)
  exact svs_cons (sv_set (i := 4) (eo_of (ev_item (ev_var 2) (ev_mod (ev_add (ev_indexL (i := 2) (ev_var 3)) ev_int) (ev_len T.b_len (ea_cons (ev_var 2) ea_nil))))) sc__law_goes.nd)
    (svs_cons (sv_setLc (i := 5) (own := [("_law_to", 7)]) rfl sc__law_goes.nd (iv_list (ev_var 1)) (blkOk_by (own := [("_law_to", 7)]) (N := N__law_goes) (sc := (defScope s__law_goes)) (by decide +kernel)) (fun _ _ _ _ _ => gv_name (i := 7) sc__law_goes.nd) (fun _ _ _ _ _ => ets_one (et_w (ew_or (et_eq hr.units (ev_var 7) (ev_var 4)) (ew_or1 (et_eq hr.units (ev_of (eo_fn g__law_take gd hr takes0 (ex_s 0 (ex_v ev_int ex_nil)))) ev_int))))) (fun _ _ _ _ _ => ev_var 7) (sw_true rfl rfl rfl (by decide +kernel)))
    (svs_frz (i := 5) (svs_cons (sv_set (i := 6) (eo_lc (own := [("_law_to", 7)]) rfl sc__law_goes.nd (iv_list (ev_var 5)) (blkOk_by (own := [("_law_to", 7)]) (N := N__law_goes) (sc := (defScope s__law_goes)) (by decide +kernel)) (fun _ _ _ _ _ => gv_name (i := 7) sc__law_goes.nd) (fun _ _ _ _ _ => ets_nil) (fun _ _ _ _ _ => ev_add ev_int (ev_of (eo_fn g__law_take gd hr takes0 (ex_s 0 (ex_v ev_int ex_nil)))))) sc__law_goes.nd)
    (svs_frz (i := 6) (svs_one (sv_ret (eo_lc (own := [("_law_to", 7), ("_law_bit", 8)]) rfl sc__law_goes.nd (iv_zip T.b_zip (ea_cons (ev_var 5) (ea_cons (ev_var 6) ea_nil))) (blkOk_by (own := [("_law_to", 7), ("_law_bit", 8)]) (N := N__law_goes) (sc := (defScope s__law_goes)) (by decide +kernel)) (fun _ _ _ _ _ => gv_tup rfl (gvs_cons (gv_name (i := 7) sc__law_goes.nd) (gvs_cons (gv_name (i := 8) sc__law_goes.nd) gvs_nil))) (fun _ _ _ _ _ => ets_nil) (fun _ _ _ _ _ => ev_tup (ea_cons (ev_var 7) (ea_cons (ev_of (eo_fn g__law_fraction gd hr takes0 (ex_v (ev_var 8) (ex_v (ev_sum rfl T.b_sum (ea_cons (ev_var 6) ea_nil)) ex_nil)))) ea_nil))))))))))
abbrev N__law_halved : List Str := ["_law_ways", "_law_to", "_law_share"]
theorem sc__law_halved : FnScope N__law_halved ["_law_ways"] (defScope s__law_halved) := ⟨rfl, rfl, rfl, by decide +kernel, rfl, by decide +kernel, by decide +kernel⟩
theorem ok__law_halved (T : Txt K mg) : Ok P w K mg base "_law_halved" 34 1 none fn__law_halved := by
  have g__law_fraction := ok__law_fraction (P := P) (w := w) (base := base) T
  refine ok_mk (N := N__law_halved) (ps := ["_law_ways"]) (fb := fb__law_halved) T.f__law_halved sc__law_halved (by decide) (fun _ _ _ _ _ _ us hl => match us, hl with | [_], _ => rfl) (fun f cdv A outer s H E gd hr tk po => ?_)
  exact svs_one (sv_ret (eo_lc (own := [("_law_to", 1), ("_law_share", 2)]) rfl sc__law_halved.nd (iv_list (ev_var 0)) (blkOk_by (own := [("_law_to", 1), ("_law_share", 2)]) (N := N__law_halved) (sc := (defScope s__law_halved)) (by decide +kernel)) (fun _ _ _ _ _ => gv_tup rfl (gvs_cons (gv_name (i := 1) sc__law_halved.nd) (gvs_cons (gv_name (i := 2) sc__law_halved.nd) gvs_nil))) (fun _ _ _ _ _ => ets_nil) (fun _ _ _ _ _ => ev_tup (ea_cons (ev_var 1) (ea_cons (ev_of (eo_fn g__law_fraction gd hr takes0 (ex_v (ev_item (ev_var 2) ev_int) (ex_v (ev_mul ev_int (ev_item (ev_var 2) ev_int)) ex_nil)))) ea_nil)))))
abbrev N__law_refused : List Str := ["_law_net", "e"]
theorem sc__law_refused : FnScope N__law_refused ["_law_net"] (defScope s__law_refused) := ⟨rfl, rfl, rfl, by decide +kernel, rfl, by decide +kernel, by decide +kernel⟩
theorem ok__law_refused (T : Txt K mg) : Ok P w K mg base "_law_refused" 43 1 none fn__law_refused := by
  have g_crowds := ok_crowds (P := P) (w := w) (base := base) T
  refine ok_mk (N := N__law_refused) (ps := ["_law_net"]) (fb := fb__law_refused) T.f__law_refused sc__law_refused (by decide) (fun _ _ _ _ _ _ us hl => match us, hl with | [_], _ => rfl) (fun f cdv A outer s H E gd hr tk po => ?_)
  exact svs_cons (sv_try_as (i := 1) rfl rfl sc__law_refused.nd tk rfl rfl T.x_RestError rfl rfl (by decide) (exa_cons T.m_OtherNet_RestError exa_nil) (xec_cons T.xc_OtherNet xec_nil) (fun W2 pn xe tk po => svs_cons (sv_expr (ev_of (eo_fn g_crowds gd hr tk (ex_v (ev_var 0) ex_nil))))
    svs_nil) (fun c hc a oe pn hH => sves_one (sve_ret (eoe_of (eve_is hH T.b_isinstance (isa_cons (isM_of T.x_OtherNet T.m_OtherNet_OtherNet T.m_OtherNet_OtherNet) isa_nil) hc)))))
    (svs_one (sv_ret (eo_of ev_bl)))
abbrev N_law : List Str := ["_law_script", "_law_stream_here", "_law_lines", "_law_stands", "_law_some", "_law_goes_here", "_law_crowd", "_law_row", "_law_k", "_law_places", "_law_made", "_law_counts", "_law_net", "_law_kept", "_law_due", "_law_told", "_law_half", "_law_wide", "_law_ring_here", "_law_stand", "_law_room", "_law_at", "_law_s", "_law_line", "_law_place", "_law_rate", "_law_ways"]
theorem sc_law : FnScope N_law ["_law_script"] (defScope s_law) := ⟨rfl, rfl, rfl, by decide +kernel, rfl, by decide +kernel, by decide +kernel⟩
theorem ok_law_at {f : Addr} {fd : FuncData} (T : Txt K mg) (F : Fun K "law" "law" s_law f fd) : FnG P w K mg base 44 f fd ["_law_script"] (spF K mg 1 none fn_law) := by
  have g__law_stream := ok__law_stream (P := P) (w := w) (base := base) T
  have g__law_take := ok__law_take (P := P) (w := w) (base := base) T
  have g__law_crowds := ok__law_crowds (P := P) (w := w) (base := base) T
  have g__law_ring := ok__law_ring (P := P) (w := w) (base := base) T
  have g__law_goes := ok__law_goes (P := P) (w := w) (base := base) T
  have g_made_net := ok_made_net (P := P) (w := w) (base := base) T
  have g_crowds__o := ok_crowds__o (P := P) (w := w) (base := base) T
  have g__law_halved := ok__law_halved (P := P) (w := w) (base := base) T
  have g__law_refused := ok__law_refused (P := P) (w := w) (base := base) T
  refine ok_at (N := N_law) (ps := ["_law_script"]) (fb := fb_law) F sc_law (by decide) (fun f cdv A outer s H E gd hr tk po => ?_)
  exact svs_cons (sv_set (i := 1) (eo_fn g__law_stream gd hr tk (ex_v (ev_var 0) (ex_v ev_int ex_nil))) sc_law.nd)
    (svs_cons (sv_set (i := 2) (eo_of (ev_add ev_int (ev_of (eo_fn g__law_take gd hr tk (ex_s 1 (ex_v ev_int ex_nil)))))) sc_law.nd)
    (svs_cons (sv_set (i := 3) (eo_of (ev_add (ev_var 2) (ev_of (eo_fn g__law_take gd hr tk (ex_s 1 (ex_v (ev_sub ev_int (ev_var 2)) ex_nil)))))) sc_law.nd)
    (svs_cons (sv_set (i := 4) (eo_fn g__law_crowds gd hr tk (ex_s 1 (ex_v (ev_var 3) ex_nil))) sc_law.nd)
    (svs_cons (sv_set (i := 5) (eo_rep (ev_of (eo_lst (ea_cons (ev_of (eo_lst ea_nil)) ea_nil))) (ev_var 3)) sc_law.nd)
    (svs_frz (i := 4) (svs_cons (sv_for po rfl (iv_list (ev_var 4)) (gv_name (i := 6) sc_law.nd) (svs_cons (sv_set (i := 18) (eo_fn g__law_ring gd hr tk (ex_s 1 (ex_v (ev_var 6) ex_nil))) sc_law.nd)
    (svs_frz (i := 18) (svs_cons (sv_for po rfl (iv_list (ev_var 6)) (gv_name (i := 19) sc_law.nd) (svs_cons (sv_putAt (i := 5) (ev_of (eo_fn g__law_goes gd hr tk (ex_s 1 (ex_v (ev_var 6) (ex_v (ev_var 18) (ex_v (ev_var 19) ex_nil)))))) (ev_var 19))
    (svs_kill (is := [19]) svs_nil)))
    (svs_kill (is := [6, 18]) svs_nil)))))
    (svs_cons (sv_set (i := 7) (eo_lst ea_nil) sc_law.nd)
    (svs_cons (sv_for po rfl (iv_range1 rfl T.b_range (ea_cons (ev_var 2) ea_nil)) (gv_name (i := 8) sc_law.nd) (svs_cons (sv_set (i := 20) (eo_of (ev_item (ev_of (eo_lst (ea_cons (ev_tup (ea_cons ev_int (ea_cons ev_str ea_nil))) (ea_cons (ev_tup (ea_cons ev_int (ea_cons ev_str ea_nil))) (ea_cons (ev_tup (ea_cons ev_int (ea_cons ev_str ea_nil))) ea_nil))))) (ev_of (eo_fn g__law_take gd hr tk (ex_s 1 (ex_v ev_int ex_nil)))))) sc_law.nd)
    (svs_cons (sv_app (i := 7) (ev_tup (ea_cons (ev_of (eo_lst (ea_cons (ev_tup (ea_cons (ev_add ev_int (ev_of (eo_fn g__law_take gd hr tk (ex_s 1 (ex_v ev_int ex_nil))))) (ea_cons ev_int ea_nil))) ea_nil))) (ea_cons (ev_tup (ea_cons ev_int (ea_cons ev_int ea_nil))) (ea_cons (ev_item (ev_var 20) ev_int) (ea_cons (ev_item (ev_var 20) ev_int) ea_nil))))))
    (svs_kill (is := [8, 20]) svs_nil))))
    (svs_cons (sv_set (i := 9) (eo_of (ev_add (ev_of (eo_listRg1 rfl T.b_list T.b_range (ev_var 2))) (ev_of (eo_lc (own := [("_law_k", 8)]) rfl sc_law.nd (iv_range1 rfl T.b_range (ea_cons (ev_sub (ev_var 3) (ev_var 2)) ea_nil)) (blkOk_by (own := [("_law_k", 8)]) (N := N_law) (sc := (defScope s_law)) (by decide +kernel)) (fun _ _ _ _ _ => gv_name (i := 8) sc_law.nd) (fun _ _ _ _ _ => ets_nil) (fun _ _ _ _ _ => ev_of (eo_fn g__law_take gd hr takes0 (ex_s 1 (ex_v (ev_var 2) ex_nil)))))))) sc_law.nd)
    (svs_cons (sv_setLc (i := 10) (own := [("_law_s", 22)]) rfl sc_law.nd (iv_range1 rfl T.b_range (ea_cons (ev_var 3) ea_nil)) (blkOk_by (own := [("_law_s", 22)]) (N := N_law) (sc := (defScope s_law)) (by decide +kernel)) (fun _ _ _ _ _ => gv_name (i := 22) sc_law.nd) (fun _ _ _ _ _ => ets_nil) (fun _ _ _ _ _ => ev_tup (ea_cons (ev_item (ev_var 9) (ev_var 22)) (ea_cons (ev_tup (ea_cons (ev_add ev_int (ev_of (eo_fn g__law_take gd hr takes0 (ex_s 1 (ex_v ev_int ex_nil))))) (ea_cons ev_int ea_nil))) (ea_cons (ev_peek (i := 5) (ev_var 22)) ea_nil)))) (sw_true rfl rfl rfl (by decide +kernel)))
    (svs_cons (sv_set (i := 11) (eo_rep (ev_of (eo_lst (ea_cons ev_int ea_nil))) (ev_var 3)) sc_law.nd)
    (svs_cons (sv_for po rfl (iv_range1 rfl T.b_range (ea_cons (ev_add ev_int (ev_of (eo_fn g__law_take gd hr tk (ex_s 1 (ex_v ev_int ex_nil))))) ea_nil)) (gv_name (i := 8) sc_law.nd) (svs_cons (sv_set (i := 21) (eo_fn g__law_take gd hr tk (ex_s 1 (ex_v (ev_var 3) ex_nil))) sc_law.nd)
    (svs_cons (sv_putAt (i := 11) (ev_add (ev_peek (i := 11) (ev_var 21)) ev_int) (ev_var 21))
    (svs_kill (is := [8, 21]) svs_nil))))
    (svs_frz (i := 7) (svs_frz (i := 10) (svs_frz (i := 11) (svs_cons (sv_set (i := 12) (eo_fn g_made_net gd hr tk (ex_v (ev_var 7) (ex_v (ev_var 10) (ex_v (ev_tup (ea_cons ev_str (ea_cons (ev_var 11) ea_nil))) ex_nil)))) sc_law.nd)
    (svs_cons (sv_set (i := 13) (eo_fn g_made_net gd hr tk (ex_v (ev_var 7) (ex_v (ev_var 10) (ex_v (ev_tup (ea_cons ev_str (ea_cons (ev_var 11) ea_nil))) ex_nil)))) sc_law.nd)
    (svs_cons (sv_set (i := 14) (eo_sortLI hr.units T.b_sorted (ea_cons (ev_of (eo_lc (own := [("_law_crowd", 6)]) rfl sc_law.nd (iv_list (ev_var 4)) (blkOk_by (own := [("_law_crowd", 6)]) (N := N_law) (sc := (defScope s_law)) (by decide +kernel)) (fun _ _ _ _ _ => gv_name (i := 6) sc_law.nd) (fun _ _ _ _ _ => ets_nil) (fun _ _ _ _ _ => ev_tup (ea_cons (ev_var 6) (ea_cons (ev_sum rfl T.b_sum (ea_cons (ev_of (eo_lc (own := [("_law_s", 22)]) rfl sc_law.nd (iv_list (ev_var 6)) (blkOk_by (own := [("_law_s", 22)]) (by dsimp only [L2.Cx.blk, compEnvC, cxOf, envOfC, relabel_eq]; decide +kernel)) (fun _ _ _ _ _ => gv_name (i := 22) sc_law.nd) (fun _ _ _ _ _ => ets_nil) (fun _ _ _ _ _ => ev_peek (i := 11) (ev_var 22)))) ea_nil)) ea_nil))))) ea_nil)) sc_law.nd)
    (svs_cons (sv_set (i := 15) (eo_fn g_crowds__o gd hr tk (ex_v (ev_var 12) ex_nil)) sc_law.nd)
    (svs_frz (i := 14) (svs_frz (i := 5) (svs_cons (sv_if (et_th 15 (et_w (ew_or (et_not (et_val (ev_isi (Tn := "list") T.b_isinstance T.b_list (ev_var 15) (by decide +kernel)))) (ew_or (et_ne hr.units (ev_var 15) (ev_var 14)) (ew_or1 (et_ne hr.units (ev_var 12) (ev_var 13))))))) (svs_one (sv_ret (eo_of ev_bl))) svs_nil)
    (svs_cons (sv_deepApp (i := 15) (ep_ix (ep_ix (ep_var 15) ev_int) ev_int) ev_int)
    (svs_cons (sv_if (et_w (ew_or (et_ne hr.units (ev_of (eo_fn g_crowds__o gd hr tk (ex_v (ev_var 12) ex_nil))) (ev_var 14)) (ew_or1 (et_ne hr.units (ev_var 12) (ev_var 13))))) (svs_one (sv_ret (eo_of ev_bl))) svs_nil)
    (svs_cons (sv_setLc (i := 16) (own := [("_law_place", 24), ("_law_rate", 25), ("_law_ways", 26)]) rfl sc_law.nd (iv_list (ev_var 10)) (blkOk_by (own := [("_law_place", 24), ("_law_rate", 25), ("_law_ways", 26)]) (N := N_law) (sc := (defScope s_law)) (by decide +kernel)) (fun _ _ _ _ _ => gv_tup rfl (gvs_cons (gv_name (i := 24) sc_law.nd) (gvs_cons (gv_name (i := 25) sc_law.nd) (gvs_cons (gv_name (i := 26) sc_law.nd) gvs_nil)))) (fun _ _ _ _ _ => ets_nil) (fun _ _ _ _ _ => ev_tup (ea_cons (ev_var 24) (ea_cons (ev_var 25) (ea_cons (ev_of (eo_fn g__law_halved gd hr takes0 (ex_v (ev_var 26) ex_nil))) ea_nil)))) (sw_true rfl rfl rfl (by decide +kernel)))
    (svs_cons (sv_setLc (i := 17) (own := [("_law_line", 23)]) rfl sc_law.nd (iv_list (ev_var 7)) (blkOk_by (own := [("_law_line", 23)]) (N := N_law) (sc := (defScope s_law)) (by decide +kernel)) (fun _ _ _ _ _ => gv_name (i := 23) sc_law.nd) (fun _ _ _ _ _ => ets_nil) (fun _ _ _ _ _ => ev_tup (ea_cons (ev_item (ev_var 23) ev_int) (ea_cons (ev_item (ev_var 23) ev_int) (ea_cons ev_int (ea_cons ev_str ea_nil))))) (sw_true rfl rfl rfl (by decide +kernel)))
    (svs_frz (i := 16) (svs_frz (i := 17) (svs_one (sv_ret (eo_fn g__law_refused gd hr tk (ex_v (ev_of (eo_fn g_made_net gd hr tk (ex_v (ev_var 17) (ex_v (ev_var 16) (ex_v (ev_tup (ea_cons ev_str (ea_cons (ev_mul (ev_of (eo_lst (ea_cons (ev_tup (ea_cons ev_int (ea_cons ev_int ea_nil))) ea_nil))) (ev_var 3)) ea_nil))) ex_nil))))) ex_nil))))))))))))))))))))))))))))))))
end Wk
end K11
namespace Dt.Hk
open PySem PySem.Spec PyProof.Rows L2 Dt
open PySem.W (nsIn fnOf codeIn keepIn)
structure Qs where
  fns : List (Str × Str × Stmt)
  frees : List Str
  excs : List Str
  xcs : List Str
  isv : List (Str × String)
  exm : List (Str × Str × Bool)
  cints : List (Str × Int)
  cstrs : List (Str × Str)
  ctups : List (Str × List (Int ⊕ Str))
def eqB (a b : Option Bool) : Bool := match a, b with
  | some x, some y => x == y
  | _, _ => false
theorem eqB_ok {a : Option Bool} {b : Bool} (h : eqB a (some b) = true) : a = some b := by
  cases a with
  | none => cases h
  | some x =>
    have e : x = b := eq_of_beq h
    rw [e]
def isBn (o : Option (Option Value)) (x : String) : Bool := match o with
  | some (some (.builtin y)) => y == x
  | _ => false
theorem isBn_ok {o : Option (Option Value)} {x : String} (h : isBn o x = true) : o = some (some (.builtin x)) := by
  cases o with
  | none => cases h
  | some o =>
    cases o with
    | none => cases h
    | some v =>
      cases v with
      | builtin y =>
        have e : y = x := eq_of_beq h
        rw [e]
      | _ => cases h
def isNo (o : Option (Option Value)) : Bool := match o with
  | some none => true
  | _ => false
theorem isNo_ok {o : Option (Option Value)} (h : isNo o = true) : o = some none := by
  cases o with
  | none => cases h
  | some o =>
    cases o with
    | none => rfl
    | some v => cases h
def isTy (o : Option Value) (x : String) : Bool := match o with
  | some (.type y) => y == x
  | _ => false
theorem isTy_ok {o : Option Value} {x : String} (h : isTy o x = true) : o = some (.type x) := by
  cases o with
  | none => cases h
  | some v =>
    cases v with
    | type y =>
      have e : y = x := eq_of_beq h
      rw [e]
    | _ => cases h
def litB : Int ⊕ Str → Value → Bool
  | .inl i, .int j _ => decide (j = i)
  | .inr s, .str t _ => decide (t = s)
  | _, _ => false
def litsB : List (Int ⊕ Str) → List Value → Bool
  | [], [] => true
  | x :: xs, u :: us => litB x u && litsB xs us
  | _, _ => false
def litD : Int ⊕ Str → D
  | .inl i => .int i
  | .inr s => .str s
theorem litsB_ok : ∀ {xs : List (Int ⊕ Str)} {us : List Value}, litsB xs us = true → Flats us (xs.map litD)
  | [], [], _ => .nil
  | [], _ :: _, h => by cases h
  | _ :: _, [], h => by cases h
  | .inl i :: xs, u :: us, h => by
    obtain ⟨h1, h2⟩ := He.ba (show (litB (.inl i) u && litsB xs us) = true from h)
    cases u with
    | int j t =>
      have e : j = i := of_decide_eq_true h1
      rw [← e]
      exact .int (litsB_ok h2)
    | _ => cases h1
  | .inr s :: xs, u :: us, h => by
    obtain ⟨h1, h2⟩ := He.ba (show (litB (.inr s) u && litsB xs us) = true from h)
    cases u with
    | str j t =>
      have e : j = s := of_decide_eq_true h1
      rw [← e]
      exact .str (litsB_ok h2)
    | _ => cases h1
def excB (K : PySem.W.Frag) (x : Str) : Bool := (match nsIn K mainGlobals x with
  | some (some (.ref C)) => PySem.W.excIn K C veTail "ValueError.__new__" && (keepIn K (.ref C) && (eqB (PySem.W.subIn K (.ref C) (.type "BaseException")) (some true) && isTy (PySem.W.typeIn K (.ref C)) "type"))
  | _ => false)
def xcB (K : PySem.W.Frag) (x : Str) : Bool := (match nsIn K mainGlobals x with
  | some (some (.ref C)) => isBn (PySem.W.findIn K (.ref C) "__getattribute__") "BaseException.__getattribute__" && (isNo (PySem.W.findIn K (.ref C) "__getattr__") && (eqB (PySem.W.subIn K (.ref C) (.type "BaseException")) (some true) &&
    (PySem.W.hasDictIn K C && (isBn (PySem.W.findIn K (.ref C) "__class__") "object.__class__" && (isBn (PySem.W.specialIn K (.builtin "object.__class__") "__get__") "getset_descriptor.__get__" &&
    (eqB (PySem.W.takesIn K (.builtin "object.__class__")) (some true) && eqB (PySem.W.mroIn K C (.type "object")) (some true)))))))
  | _ => false)
def isvB (K : PySem.W.Frag) (q : Str × String) : Bool := (match nsIn K mainGlobals q.1 with
  | some (some (.ref C)) => eqB (PySem.W.subIn K (.ref C) (.type q.2)) (some true)
  | _ => false)
def exmB (K : PySem.W.Frag) (q : Str × Str × Bool) : Bool := (match nsIn K mainGlobals q.1 with
  | some (some (.ref C)) => (match nsIn K mainGlobals q.2.1 with
    | some (some (.ref E)) => eqB (PySem.W.exmOne K (.ref C) (.ref E)) (some q.2.2)
    | _ => false)
  | _ => false)
def intB (K : PySem.W.Frag) (q : Str × Int) : Bool := (match nsIn K mainGlobals q.1 with
  | some (some (.int j _)) => decide (j = q.2)
  | _ => false)
def strB (K : PySem.W.Frag) (q : Str × Str) : Bool := (match nsIn K mainGlobals q.1 with
  | some (some (.str j _)) => decide (j = q.2)
  | _ => false)
def tupB (K : PySem.W.Frag) (q : Str × List (Int ⊕ Str)) : Bool := (match nsIn K mainGlobals q.1 with
  | some (some (.ref p)) => (match K.lookup p with
    | some ⟨.type c, _, .seq its _, _⟩ => (c == "tuple") && (Nat.ble its.size 1000 && litsB q.2 its.toList)
    | _ => false)
  | _ => false)
def enc (s : Str) : Nat := s.cps.toList.foldl (fun a c => a * 1114112 + c + 1) 0
def encV : Value → Nat
  | .str s _ => enc s
  | _ => 0
theorem encV_of {v : Value} {x : Str} (h : v.isStr x = true) : encV v = enc x := by
  cases v with
  | str s t =>
    have e : s = x := by
      have h1 : (s == x) = true := h
      exact eq_of_beq h1
    rw [e]; rfl
  | _ => cases h
def tbl (es : List DictEntry) : List (Nat × DictEntry) := es.map fun e => (encV e.key, e)
def tblK {α : Type} : List DictEntry → (List (Nat × DictEntry) → α) → α
  | [], k => k []
  | e :: r, k => HandSHeadRun.frNat (encV e.key) fun n => tblK r fun t => k ((n, e) :: t)
theorem tblK_eq {α : Type} : ∀ (es : List DictEntry) (k : List (Nat × DictEntry) → α), tblK es k = k (tbl es)
  | [], k => rfl
  | e :: r, k => by
    unfold tblK
    rw [HandSHeadRun.frNat_eq, tblK_eq r]
    rfl
def lkT (n : Nat) : List (Nat × DictEntry) → Option DictEntry
  | [] => none
  | (m, e) :: r => match Nat.beq m n with
    | true => some e
    | false => lkT n r
theorem lkT_some {x : Str} {e : DictEntry} (hx : e.key.isStr x = true) : ∀ es : List DictEntry, lkT (enc x) (tbl es) = some e → es.find? (·.key.isStr x) = some e ∧ e ∈ es
  | [], h => by cases h
  | a :: r, h => by
    have h1 : (match Nat.beq (encV a.key) (enc x) with
      | true => some a
      | false => lkT (enc x) (tbl r)) = some e := h
    cases q : Nat.beq (encV a.key) (enc x) with
    | true =>
      rw [q] at h1
      have ea : a = e := Option.some.inj h1
      subst ea
      exact ⟨by rw [List.find?_cons, hx], List.mem_cons_self⟩
    | false =>
      rw [q] at h1
      obtain ⟨h2, h3⟩ := lkT_some hx r h1
      have n : a.key.isStr x = false := by
        cases z : a.key.isStr x with
        | false => rfl
        | true =>
          rw [encV_of z] at q
          have : Nat.beq (enc x) (enc x) = true := Nat.beq_refl _
          rw [this] at q
          cases q
      exact ⟨by rw [List.find?_cons, n]; exact h2, List.mem_cons_of_mem _ h3⟩
theorem lkT_none {x : Str} : ∀ es : List DictEntry, lkT (enc x) (tbl es) = none → es.find? (·.key.isStr x) = none
  | [], _ => rfl
  | a :: r, h => by
    have h1 : (match Nat.beq (encV a.key) (enc x) with
      | true => some a
      | false => lkT (enc x) (tbl r)) = none := h
    cases q : Nat.beq (encV a.key) (enc x) with
    | true => rw [q] at h1; cases h1
    | false =>
      rw [q] at h1
      have n : a.key.isStr x = false := by
        cases z : a.key.isStr x with
        | false => rfl
        | true =>
          rw [encV_of z] at q
          have : Nat.beq (enc x) (enc x) = true := Nat.beq_refl _
          rw [this] at q
          cases q
      rw [List.find?_cons, n]
      exact lkT_none r h1
def glE (g : Addr → Option Obj) : List DictEntry := (match g mainGlobals with
  | some ⟨_, _, .dict us _, _⟩ => us.toList
  | _ => [])
def rfs (g : Addr → Option Obj) (as : List Addr) : List Addr := as.flatMap fun a => (match g a with
  | some o => He.refsO o
  | none => [])
def r1 (es : List DictEntry) : List Addr := es.flatMap fun e => He.refV e.val
def asK (g : Addr → Option Obj) : List Addr := (mainGlobals :: (r1 ((glE g).take 24) ++ rfs g (r1 ((glE g).take 24)))) ++ (r1 (glE g) ++ rfs g (r1 (glE g)))
theorem frG_mem {g : Addr → Option Obj} {a : Addr} : ∀ as : List Addr, a ∈ as → (He.frG g as).lookup a = g a
  | [], h => by cases h
  | b :: r, h => by
    unfold He.frG
    rw [List.filterMap_cons]
    cases hb : g b with
    | none =>
      rcases List.mem_cons.mp h with rfl | hr
      · rw [hb]
        show (He.frG g r).lookup a = none
        cases q : (He.frG g r).lookup a with
        | none => rfl
        | some o => rw [He.frG_at r q] at hb; cases hb
      · exact frG_mem r hr
    | some o =>
      show List.lookup a ((b, o) :: He.frG g r) = g a
      rw [List.lookup_cons]
      cases q : a == b with
      | true =>
        have e : a = b := eq_of_beq q
        rw [e, hb]
      | false =>
        rcases List.mem_cons.mp h with rfl | hr
        · rw [beq_self_eq_true] at q; cases q
        · exact frG_mem r hr
abbrev KG (g : Addr → Option Obj) : PySem.W.Frag := He.frG g (asK g)
theorem asK_main {g : Addr → Option Obj} : mainGlobals ∈ asK g := List.mem_append_left _ List.mem_cons_self
theorem asK_r1 {g : Addr → Option Obj} {e : DictEntry} {f : Addr} (he : e ∈ glE g) (hv : e.val = .ref f) : f ∈ r1 (glE g) := List.mem_flatMap.mpr ⟨e, he, by rw [hv]; exact List.mem_singleton.mpr rfl⟩
theorem asK_1 {g : Addr → Option Obj} {f : Addr} (h : f ∈ r1 (glE g)) : f ∈ asK g := List.mem_append_right _ (List.mem_append_left _ h)
theorem asK_2 {g : Addr → Option Obj} {f c : Addr} {o : Obj} (h : f ∈ r1 (glE g)) (ho : g f = some o) (hc : c ∈ He.refsO o) : c ∈ asK g := List.mem_append_right _ (List.mem_append_right _ (List.mem_flatMap.mpr ⟨f, h, by rw [ho]; exact hc⟩))
theorem glE_at {g : Addr → Option Obj} {e : DictEntry} (h : e ∈ glE g) : ∃ c d es n sl, g mainGlobals = some ⟨c, d, .dict es n, sl⟩ ∧ glE g = es.toList := by
  have k : glE g = glE g := rfl
  unfold glE at h k
  cases q : g mainGlobals with
  | none => rw [q] at h; cases h
  | some o =>
    obtain ⟨c, d, dt, sl⟩ := o
    rw [q] at h
    cases dt with
    | dict es n => exact ⟨c, d, es, n, sl, rfl, by unfold glE; rw [q]⟩
    | _ => cases h
def codeG (g : Addr → Option Obj) (v : Value) (x : Str) : Bool := match v with
  | .ref c => (match g c with
    | some ⟨_, _, .fields vs, _⟩ => (match vs.toList with
      | _ :: .str n _ :: _ => n == x
      | _ => false)
    | _ => false)
  | _ => false
def fnB (g : Addr → Option Obj) (t : List (Nat × DictEntry)) (q : Str × Str × Stmt) : Bool := (match HandSHeadRun.frNat (enc q.1) fun n => lkT n t with
  | some e => e.key.isStr q.1 && (match e.val with
    | .ref f => (match g f with
      | some ⟨_, _, .func fd, _⟩ => codeG g fd.code q.2.1
      | _ => false)
    | _ => false)
  | _ => false)
abbrev FnO : Type := Option (Str × Str × Arguments × FuncBody × Scope × Addr × List (Str × Addr) × Value × Addr)
def fnO (g : Addr → Option Obj) (t : List (Nat × DictEntry)) (q : Str × Str × Stmt) : FnO := (match HandSHeadRun.frNat (enc q.1) fun n => lkT n t with
  | some e => (match e.val with
    | .ref f => (match g f with
      | some ⟨_, _, .func u, _⟩ => some (u.name, u.qualname, u.params, u.body, u.scope, u.globals, u.closure, u.defaults, u.builtins)
      | _ => none)
    | _ => none)
  | _ => none)
def fnV (q : Str × Str × Stmt) : FnO := some (q.2.1, q.2.1, defArgs q.2.2, .stmts (defBody q.2.2), defScope q.2.2, mainGlobals, [], .none, builtinsNs)
def FnK (K : PySem.W.Frag) (q : Str × Str × Stmt) : Prop := ∃ f fd, nsIn K mainGlobals q.1 = some (some (.ref f)) ∧ Fun K q.2.1 q.2.1 q.2.2 f fd
theorem fnK_of {g : Addr → Option Obj} {q : Str × Str × Stmt} (hb : fnB g (tbl (glE g)) q = true) (ho : fnO g (tbl (glE g)) q = fnV q) : FnK (KG g) q := by
  unfold fnB at hb
  unfold fnO at ho
  rw [HandSHeadRun.frNat_eq] at hb ho
  cases e1 : lkT (enc q.1) (tbl (glE g)) with
  | none => rw [e1] at hb; cases hb
  | some e =>
    rw [e1] at hb ho
    obtain ⟨hk, hb⟩ := He.ba hb
    obtain ⟨hf, hm⟩ := lkT_some hk _ e1
    obtain ⟨c0, d0, es, n0, sl0, hg, hes⟩ := glE_at hm
    cases e2 : e.val with
    | ref f =>
      rw [e2] at hb
      simp only [e2] at ho
      replace hb : (match g f with
        | some ⟨_, _, .func fd, _⟩ => codeG g fd.code q.2.1
        | _ => false) = true := hb
      have m1 : f ∈ r1 (glE g) := asK_r1 hm e2
      have hns : nsIn (KG g) mainGlobals q.1 = some (some (.ref f)) := by
        unfold nsIn
        rw [frG_mem _ asK_main, hg]
        rw [hes] at hf
        simp only [hf, e2]
      cases e3 : g f with
      | none => rw [e3] at hb; cases hb
      | some o =>
        obtain ⟨oc, od, dt, osl⟩ := o
        rw [e3] at hb ho
        cases dt with
        | func fd =>
          obtain ⟨m1_, m2_, m3_, m4_, m5_, m6_, m7_, m8_, m9_, m10_, m11_, m12_, m13_, m14_, m15_⟩ := fd
          have e4 : (some (m1_, m2_, m3_, m4_, m5_, m6_, m7_, m8_, m15_) : FnO) = some (q.2.1, q.2.1, defArgs q.2.2, .stmts (defBody q.2.2), defScope q.2.2, mainGlobals, [], .none, builtinsNs) := ho
          simp only [Option.some.injEq, Prod.mk.injEq] at e4
          obtain ⟨h1, h2, h3, h4, h5, h6, h7, h8, h9⟩ := e4
          have hb' : codeG g m13_ q.2.1 = true := hb
          have lk : (KG g).lookup f = g f := frG_mem _ (asK_1 m1)
          cases m13_ with
          | ref c =>
            have m2 : c ∈ asK g := asK_2 m1 e3 (by
              unfold He.refsO
              refine List.mem_append_right _ (List.mem_append_left _ ?_)
              exact List.mem_singleton.mpr rfl)
            have hc : codeIn (KG g) (.ref c) q.2.1 = true := by
              have lc : (KG g).lookup c = g c := frG_mem _ m2
              unfold codeIn
              simp only [lc]
              exact hb'
            have kp : keepIn (KG g) (.ref f) = true := by
              unfold keepIn
              simp only [lk, e3]
            subst h1 h3 h4 h5 h6 h7 h8 h9
            refine ⟨f, _, hns, fun_mk (kV := m9_) (doc := m10_) (pm := m11_) (an := m12_) (cdv := .ref c) (ct := m14_) (oc := oc) (od := od) (osl := osl) ?_ hc kp⟩
            rw [lk, e3, ← h2]
          | _ => cases hb'
        | _ => cases hb
    | _ => rw [e2] at hb; cases hb
def frB (t : List (Nat × DictEntry)) (x : Str) : Bool := (match HandSHeadRun.frNat (enc x) fun n => lkT n t with
  | none => true
  | some _ => false)
theorem frB_ok {g : Addr → Option Obj} {x : Str} (hn : (glE g).isEmpty = false) (hr : ((glE g).any (·.refKey)) = false) (h : frB (tbl (glE g)) x = true) : nsIn (KG g) mainGlobals x = some none := by
  unfold frB at h
  rw [HandSHeadRun.frNat_eq] at h
  cases e1 : lkT (enc x) (tbl (glE g)) with
  | some e => rw [e1] at h; cases h
  | none =>
    have hf := lkT_none _ e1
    cases q : glE g with
    | nil => rw [q] at hn; cases hn
    | cons e r =>
      obtain ⟨c0, d0, es, n0, sl0, hg, hes⟩ := glE_at (g := g) (e := e) (by rw [q]; exact List.mem_cons_self)
      unfold nsIn
      rw [frG_mem _ asK_main, hg]
      rw [hes] at hf hr
      simp only [hf, hr]
      rfl
def Qs.ckK (Q : Qs) (K : PySem.W.Frag) : Bool := Q.excs.all (excB K) && (Q.xcs.all (xcB K) && (Q.isv.all (isvB K) && (Q.exm.all (exmB K) && (Q.cints.all (intB K) && (Q.cstrs.all (strB K) && Q.ctups.all (tupB K))))))
def Qs.ckT (Q : Qs) (g : Addr → Option Obj) (t : List (Nat × DictEntry)) : Bool := Q.fns.all (fnB g t) && Q.frees.all (frB t)
abbrev QO : Type := Bool × Bool × List FnO
def Qs.obsG (Q : Qs) (g : Addr → Option Obj) : QO := (!(glE g).isEmpty && (!((glE g).any (·.refKey)) && Q.ckK (KG g)), tblK (glE g) fun t => (Q.ckT g t, Q.fns.map (fnO g t)))
def Qs.val (Q : Qs) : QO := (true, true, Q.fns.map fnV)
structure Says (Q : Qs) (K : PySem.W.Frag) : Prop where
  fn : ∀ q ∈ Q.fns, FnK K q
  fr : ∀ x ∈ Q.frees, nsIn K mainGlobals x = some none
  ck : Q.ckK K = true
theorem says_of {Q : Qs} {g : Addr → Option Obj} (h : Q.obsG g = Q.val) : Says Q (KG g) := by
  unfold Qs.obsG at h
  rw [tblK_eq] at h
  have h1 : (!(glE g).isEmpty && (!((glE g).any (·.refKey)) && Q.ckK (KG g))) = true := congrArg (fun z : QO => z.1) h
  have h2 : Q.ckT g (tbl (glE g)) = true := congrArg (fun z : QO => z.2.1) h
  have h3 : Q.fns.map (fnO g (tbl (glE g))) = Q.fns.map fnV := congrArg (fun z : QO => z.2.2) h
  obtain ⟨a1, h1⟩ := He.ba h1
  obtain ⟨a2, a3⟩ := He.ba h1
  obtain ⟨b1, b2⟩ := He.ba h2
  refine ⟨fun q hq => fnK_of (List.all_eq_true.mp b1 q hq) (List.map_inj_left.mp h3 q hq), fun x hx => frB_ok (by simpa using a1) (by simpa using a2) (List.all_eq_true.mp b2 x hx), a3⟩
def Qs.hook (Q : Qs) : PySem.W.Hook where
  α := QO
  obs := fun s => Q.obsG s.heap.get?
  val := fun _ => Q.val
  says := fun _ h => ∃ K : PySem.W.Frag, K.In h ∧ Says Q K
  of := fun _ _ e => ⟨_, He.frG_in, says_of e⟩
  keeps := fun _ _ _ ⟨K, hIn, q⟩ kp => ⟨K, PySem.W.Frag.In.keeps hIn kp, q⟩
theorem Qs.obsG_eq {Q : Qs} {g : Addr → Option Obj} {s : Shared} (h : ∀ a, g a = s.heap.get? a) : Q.obsG g = Q.hook.obs s := by
  have eg : g = s.heap.get? := funext fun a => h a
  rw [eg] <;> rfl
section
variable {Q : Qs} {K : PySem.W.Frag} {h : Heap} {mg : Str → Option Value}
theorem nsRef {x : Str} {P : Addr → Bool} (c : (match nsIn K mainGlobals x with
  | some (some (.ref C)) => P C
  | _ => false) = true) : ∃ C, nsIn K mainGlobals x = some (some (.ref C)) ∧ P C = true := by
  cases e : nsIn K mainGlobals x with
  | none => rw [e] at c; cases c
  | some o =>
    rw [e] at c
    cases o with
    | none => cases c
    | some v =>
      cases v with
      | ref C => exact ⟨C, rfl, c⟩
      | _ => cases c
theorem Qs.fn' (X : K.In h) (G : h.Ns mainGlobals mg) (c : Says Q K) (i : Nat) {y x : Str} {st : Stmt} (hi : Q.fns[i]? = some (y, x, st) := by rfl) : ∃ f fd, Fun K x x st f fd ∧ mg y = some (.ref f) := by
  obtain ⟨f, fd, e, F⟩ := c.fn _ (List.mem_of_getElem? hi)
  exact ⟨f, fd, F, PySem.W.mg_of X G e⟩
theorem Qs.fn (X : K.In h) (G : h.Ns mainGlobals mg) (c : Says Q K) (i : Nat) {x : Str} {st : Stmt} (hi : Q.fns[i]? = some (x, x, st) := by rfl) : FnIn K mg x st := Qs.fn' X G c i hi
theorem Qs.free (X : K.In h) (G : h.Ns mainGlobals mg) (c : Says Q K) (i : Nat) {x : Str} (hi : Q.frees[i]? = some x := by rfl) : mg x = none :=
  PySem.W.mg_none_of X G (c.fr _ (List.mem_of_getElem? hi))
theorem Qs.exc (X : K.In h) (G : h.Ns mainGlobals mg) (c : Says Q K) (i : Nat) {x : Str} (hi : Q.excs[i]? = some x := by rfl) : ExC K mg x := by
  have c1 : excB K x = true := List.all_eq_true.mp (He.ba c.ck).1 _ (List.mem_of_getElem? hi)
  obtain ⟨C, e, c2⟩ := nsRef (P := fun C => PySem.W.excIn K C veTail "ValueError.__new__" && (keepIn K (.ref C) && (eqB (PySem.W.subIn K (.ref C) (.type "BaseException")) (some true) && isTy (PySem.W.typeIn K (.ref C)) "type"))) c1
  obtain ⟨d1, c2⟩ := He.ba c2
  obtain ⟨d2, c2⟩ := He.ba c2
  obtain ⟨d3, d4⟩ := He.ba c2
  exact ⟨C, PySem.W.mg_of X G e, d1, d2, eqB_ok d3, isTy_ok d4⟩
theorem Qs.xc (X : K.In h) (G : h.Ns mainGlobals mg) (c : Says Q K) (i : Nat) {x : Str} (hi : Q.xcs[i]? = some x := by rfl) : XeC K mg x := by
  have c1 : xcB K x = true := List.all_eq_true.mp (He.ba (He.ba c.ck).2).1 _ (List.mem_of_getElem? hi)
  unfold xcB at c1
  obtain ⟨C, e, c2⟩ := nsRef c1
  obtain ⟨d1, c2⟩ := He.ba c2
  obtain ⟨d2, c2⟩ := He.ba c2
  obtain ⟨d3, c2⟩ := He.ba c2
  obtain ⟨d4, c2⟩ := He.ba c2
  obtain ⟨d5, c2⟩ := He.ba c2
  obtain ⟨d6, c2⟩ := He.ba c2
  obtain ⟨d7, d8⟩ := He.ba c2
  exact ⟨C, PySem.W.mg_of X G e, isBn_ok d1, isNo_ok d2, eqB_ok d3, d4, isBn_ok d5, isBn_ok d6, eqB_ok d7, eqB_ok d8⟩
theorem Qs.em (X : K.In h) (G : h.Ns mainGlobals mg) (c : Says Q K) (i : Nat) {x y : Str} {b : Bool} (hi : Q.exm[i]? = some (x, y, b) := by rfl) : ExM K mg x y b := by
  have c1 : exmB K (x, y, b) = true := List.all_eq_true.mp (He.ba (He.ba (He.ba (He.ba c.ck).2).2).2).1 _ (List.mem_of_getElem? hi)
  unfold exmB at c1
  obtain ⟨C, e, c2⟩ := nsRef c1
  obtain ⟨C2, e2, c3⟩ := nsRef c2
  unfold ExM
  rw [PySem.W.mg_of X G e, PySem.W.mg_of X G e2]
  exact eqB_ok c3
theorem Qs.int (X : K.In h) (G : h.Ns mainGlobals mg) (c : Says Q K) (i : Nat) {x : Str} {n : Int} (hi : Q.cints[i]? = some (x, n) := by rfl) : CnIn K mg x (.int n) := by
  have c1 : intB K (x, n) = true := List.all_eq_true.mp (He.ba (He.ba (He.ba (He.ba (He.ba c.ck).2).2).2).2).1 _ (List.mem_of_getElem? hi)
  unfold intB at c1
  cases e : nsIn K mainGlobals x with
  | none => rw [e] at c1; cases c1
  | some o =>
    rw [e] at c1
    cases o with
    | none => cases c1
    | some v =>
      cases v with
      | int j t =>
        have ej : j = n := of_decide_eq_true c1
        rw [ej] at e
        exact cn_int (PySem.W.mg_of X G e)
      | _ => cases c1
theorem Qs.str (X : K.In h) (G : h.Ns mainGlobals mg) (c : Says Q K) (i : Nat) {x z : Str} (hi : Q.cstrs[i]? = some (x, z) := by rfl) : CnIn K mg x (.str z) := by
  have c1 : strB K (x, z) = true := List.all_eq_true.mp (He.ba (He.ba (He.ba (He.ba (He.ba (He.ba c.ck).2).2).2).2).2).1 _ (List.mem_of_getElem? hi)
  unfold strB at c1
  cases e : nsIn K mainGlobals x with
  | none => rw [e] at c1; cases c1
  | some o =>
    rw [e] at c1
    cases o with
    | none => cases c1
    | some v =>
      cases v with
      | str j t =>
        have ej : j = z := of_decide_eq_true c1
        rw [ej] at e
        exact cn_str (PySem.W.mg_of X G e)
      | _ => cases c1
theorem Qs.tup (X : K.In h) (G : h.Ns mainGlobals mg) (c : Says Q K) (i : Nat) {x : Str} {ls : List (Int ⊕ Str)} (hi : Q.ctups[i]? = some (x, ls) := by rfl) : CnIn K mg x (.tup (ls.map litD)) := by
  have c1 : tupB K (x, ls) = true := List.all_eq_true.mp (He.ba (He.ba (He.ba (He.ba (He.ba (He.ba c.ck).2).2).2).2).2).2 _ (List.mem_of_getElem? hi)
  unfold tupB at c1
  obtain ⟨p, e, c2⟩ := nsRef c1
  cases q : K.lookup p with
  | none => rw [q] at c2; cases c2
  | some o =>
    obtain ⟨oc, od, dt, osl⟩ := o
    rw [q] at c2
    cases oc with
    | type cc =>
      cases dt with
      | seq its n =>
        obtain ⟨d1, c3⟩ := He.ba (show ((cc == "tuple") && (Nat.ble its.size 1000 && litsB ls its.toList)) = true from c2)
        obtain ⟨d2, d3⟩ := He.ba c3
        have ec : cc = "tuple" := eq_of_beq d1
        subst ec
        have hq : K.lookup p = some ⟨.type "tuple", od, .seq its.toList.toArray n, osl⟩ := by rw [q]
        exact cn_tup (PySem.W.mg_of X G e) hq (by rw [Array.length_toList]; exact Nat.le_of_ble_eq_true d2) (litsB_ok d3)
      | _ => cases c2
    | _ => cases dt <;> cases c2
end
theorem walk_h {l : PySem.W.OpenLaw} {n k : Nat} {q : Program} {loose : List Str} {XP : (Str → Option Value) → Heap → Prop} {d : DefRec} {Q : Qs} {x : Str} (hn : l.most = some n) (himp : importsNone q = true) (tree : l.prog.given.tree = none) (few : n ≤ sizeLine) (nodef : d.params.defaults = []) (room : Room k callerA)
    (F : ∀ (w : World) (K : PySem.W.Frag) (mg : Str → Option Value) (fa : Addr) (h : Heap), Says Q K → K.In h → h.Ns mainGlobals mg → mg d.name = some (.ref fa) → ∃ fd : FuncData, (∀ (s : Shared) (u : Value), BindsTo s fd ⟨[u], []⟩ [(x, u)]) ∧ ∀ b : Heap, K.In b → b.Ns mainGlobals mg → FnG l.prog w K mg b k fa fd [x] (spL K n)) :
    PySem.W.WalkO q loose XP Q.hook.says l.row.toRowW d [] (fun f vs => PySem.call f vs) := by
  refine Att.attach_callB hn nodef ?_
  intro w _ s1 mg _ fa _ _ _ _ a _ ns G Y _ _ _ hmg scr inz hl bits gens
  obtain ⟨K, hK, c⟩ := Y
  obtain ⟨fd, bnd, go⟩ := F w K mg fa _ c hK G.T.g hmg
  exact top_call hK G.T.g G.T.b G.T.builtins G.T.nolimit (G.T.seer himp) tree gens scr inz (Nat.le_trans hl few) room go bnd (fun H hS => ⟨a, ns, rfl, hS, hl, bits, fun _ => rfl⟩)
theorem split3 {α A B C : Type} {E : Option α} {f : α → A} {g : α → B} {h : α → C} {a : A} {b : B} {c : C} (e1 : E.map f = some a) (e2 : E.map g = some b) (e3 : E.map h = some c) : E.map (fun s => (f s, g s, h s)) = some (a, b, c) := by
  cases E with
  | none => cases e1
  | some s =>
    have h1 : f s = a := Option.some.inj e1
    have h2 : g s = b := Option.some.inj e2
    have h3 : h s = c := Option.some.inj e3
    show some (f s, g s, h s) = _
    rw [h1, h2, h3]
end Dt.Hk
namespace K11
open PySem PySem.Spec PyProof.Rows L2 Dt Dt.Hk
namespace Wk
def qF0 : List (Str × Str × Stmt) := [("common", "common", s_common), ("fraction", "fraction", s_fraction), ("plus", "plus", s_plus), ("less", "less", s_less), ("is_less", "is_less", s_is_less), ("total", "total", s_total), ("stands_of", "stands_of", s_stands_of), ("ways_of", "ways_of", s_ways_of), ("is_open", "is_open", s_is_open), ("from_outside", "from_outside", s_from_outside), ("left_over", "left_over", s_left_over), ("ask", "ask", s_ask), ("ask_fraction", "ask_fraction", s_ask_fraction), ("ask_line", "ask_line", s_ask_line), ("ask_stand", "ask_stand", s_ask_stand), ("ask_rates", "ask_rates", s_ask_rates), ("ask_counts", "ask_counts", s_ask_counts), ("ask_net", "ask_net", s_ask_net), ("made_net", "made_net", s_made_net), ("begin_count", "begin_count", s_begin_count), ("goals", "goals", s_goals), ("steps_to", "steps_to", s_steps_to), ("can_go", "can_go", s_can_go), ("starts_of", "starts_of", s_starts_of), ("reached", "reached", s_reached), ("may_leave", "may_leave", s_may_leave), ("staying", "staying", s_staying), ("one_way", "one_way", s_one_way), ("is_sound", "is_sound", s_is_sound), ("ask_sound", "ask_sound", s_ask_sound)]
def qF1 : List (Str × Str × Stmt) := [("crowd_of", "crowd_of", s_crowd_of), ("crowd_stands", "crowd_stands", s_crowd_stands), ("crowds", "crowds", s_crowds), ("_law_stream", "_law_stream", s__law_stream), ("_law_take", "_law_take", s__law_take), ("_law_fraction", "_law_fraction", s__law_fraction), ("_law_crowds", "_law_crowds", s__law_crowds), ("_law_ring", "_law_ring", s__law_ring), ("_law_goes", "_law_goes", s__law_goes), ("_law_halved", "_law_halved", s__law_halved), ("_law_refused", "_law_refused", s__law_refused), ("law", "law", s_law)]
def qM0 : List (Str × Str × Bool) := [("OtherNet", "OtherNet", true), ("OtherNet", "RestError", true)]
def nm0 : List Str := ["RestError", "NoFraction", "NoNet", "Unsound", "OtherNet", "NOUGHT", "ONE", "common", "fraction", "plus", "less", "is_less", "total", "MOST_LINES", "MOST_STANDS", "MOST_SPEEDS", "MOST_ROOM", "MOST_COMERS", "SIZE", "RULES", "OPEN", "SHUT", "stands_of", "ways_of", "is_open", "from_outside", "left_over", "ask", "ask_fraction", "ask_line"]
def nm1 : List Str := ["ask_stand", "ask_rates", "ask_counts", "ask_net", "made_net", "begin_count", "goals", "steps_to", "can_go", "starts_of", "reached", "may_leave", "staying", "one_way", "is_sound", "ask_sound", "crowd_of", "crowd_stands", "crowds", "_law_stream", "_law_take", "_law_fraction", "_law_crowds", "_law_ring", "_law_goes", "_law_halved", "_law_refused"]
def names : List Str := nm0 ++ nm1
def qs : Qs := { fns := qF0 ++ qF1, frees := ["abs", "enumerate", "isinstance", "len", "list", "max", "min", "range", "sorted", "sum", "zip"], excs := ["NoFraction", "NoNet", "OtherNet", "RestError", "Unsound"], xcs := ["OtherNet"], isv := [], exm := qM0, cints := [("MOST_COMERS", 8), ("MOST_LINES", 8), ("MOST_ROOM", 9), ("MOST_SPEEDS", 6), ("MOST_STANDS", 12), ("SIZE", 1000)], cstrs := [("OPEN", "open"), ("SHUT", "shut")], ctups := [("NOUGHT", [.inl (0), .inl (1)]), ("ONE", [.inl (1), .inl (1)]), ("RULES", [.inr "stay", .inr "lose", .inr "skip"])] }
theorem all_mk {l : PySem.W.OpenLaw} {w : World} {K : PySem.W.Frag} {h : Heap} {mg : Str → Option Value} {fa : Addr} (c : Says qs K) (X : K.In h) (G : h.Ns mainGlobals mg) (hfa : mg "law" = some (.ref fa)) :
    ∃ fd : FuncData, (∀ (s : Shared) (v : Value), BindsTo s fd ⟨[v], []⟩ [("_law_script", v)]) ∧ ∀ base : Heap, K.In base → base.Ns mainGlobals mg → FnG l.prog w K mg base 44 fa fd ["_law_script"] (spL K 63) := by
  have T : Txt K mg := { f_common := Qs.fn X G c 0, f_fraction := Qs.fn X G c 1, f_plus := Qs.fn X G c 2, f_less := Qs.fn X G c 3, f_is_less := Qs.fn X G c 4, f_total := Qs.fn X G c 5, f_stands_of := Qs.fn X G c 6, f_ways_of := Qs.fn X G c 7, f_is_open := Qs.fn X G c 8, f_from_outside := Qs.fn X G c 9, f_left_over := Qs.fn X G c 10, f_ask := Qs.fn X G c 11, f_ask_fraction := Qs.fn X G c 12, f_ask_line := Qs.fn X G c 13, f_ask_stand := Qs.fn X G c 14, f_ask_rates := Qs.fn X G c 15, f_ask_counts := Qs.fn X G c 16, f_ask_net := Qs.fn X G c 17, f_made_net := Qs.fn X G c 18, f_begin_count := Qs.fn X G c 19, f_goals := Qs.fn X G c 20, f_steps_to := Qs.fn X G c 21, f_can_go := Qs.fn X G c 22, f_starts_of := Qs.fn X G c 23, f_reached := Qs.fn X G c 24, f_may_leave := Qs.fn X G c 25, f_staying := Qs.fn X G c 26, f_one_way := Qs.fn X G c 27, f_is_sound := Qs.fn X G c 28, f_ask_sound := Qs.fn X G c 29, f_crowd_of := Qs.fn X G c 30, f_crowd_stands := Qs.fn X G c 31, f_crowds := Qs.fn X G c 32, f__law_stream := Qs.fn X G c 33, f__law_take := Qs.fn X G c 34, f__law_fraction := Qs.fn X G c 35, f__law_crowds := Qs.fn X G c 36, f__law_ring := Qs.fn X G c 37, f__law_goes := Qs.fn X G c 38, f__law_halved := Qs.fn X G c 39, f__law_refused := Qs.fn X G c 40, f_law := Qs.fn X G c 41, b_abs := Qs.free X G c 0, b_enumerate := Qs.free X G c 1, b_isinstance := Qs.free X G c 2, b_len := Qs.free X G c 3, b_list := Qs.free X G c 4, b_max := Qs.free X G c 5, b_min := Qs.free X G c 6, b_range := Qs.free X G c 7, b_sorted := Qs.free X G c 8, b_sum := Qs.free X G c 9, b_zip := Qs.free X G c 10, x_NoFraction := Qs.exc X G c 0, x_NoNet := Qs.exc X G c 1, x_OtherNet := Qs.exc X G c 2, x_RestError := Qs.exc X G c 3, x_Unsound := Qs.exc X G c 4, xc_OtherNet := Qs.xc X G c 0, m_OtherNet_OtherNet := Qs.em X G c 0, m_OtherNet_RestError := Qs.em X G c 1, c_MOST_COMERS := Qs.int X G c 0, c_MOST_LINES := Qs.int X G c 1, c_MOST_ROOM := Qs.int X G c 2, c_MOST_SPEEDS := Qs.int X G c 3, c_MOST_STANDS := Qs.int X G c 4, c_NOUGHT := Qs.tup X G c 0, c_ONE := Qs.tup X G c 1, c_OPEN := Qs.str X G c 0, c_RULES := Qs.tup X G c 2, c_SHUT := Qs.str X G c 1, c_SIZE := Qs.int X G c 5 }
  obtain ⟨f, fd, F, e⟩ := Qs.fn X G c 41 (x := "law") (st := s_law)
  have e := hfa.symm.trans e
  cases e
  have F2 := F
  obtain ⟨oc, od, kV, doc, pm, an, cdv, ct, osl, rfl, _, _⟩ := F2.ex
  refine ⟨PySem.W.fnOf "law" "law" (defArgs s_law) (defBody s_law) (defScope s_law) .none kV doc pm an cdv ct, fun s v => .of_eq rfl, fun base _ _ => ?_⟩
  exact law_of (ok_law_at T F) (fun ns _ _ => law_true (ns := ns))
abbrev R : PySem.W.OpenRow := PySem.W.OpenLaw.row PySem.Challenge.rw_restlines_k11_crowds
abbrev qv : Program := PySem.W.view R.prog [62]
def ob (s : PySem.W.SharedT) : Dt.Hk.QO := qs.obsG (HandSHeadRun.getT s)
theorem ob_eq (s : PySem.W.SharedT) : ob s = qs.hook.obs s.abs := Qs.obsG_eq (HandSHeadRun.getT_eq s)
theorem run1 (w : World) (os : OsState) : (HandSHeadRun.endF (HandSHeadRun.stepQ (HandSHeadRun.denQ HandSHeadRun.tabQ) R.prog w) 12000 R.prog w os).map (fun s => HandSHeadRun.looksF R.prog (PySem.W.boot_heap w.params) s.abs) = some true := by kernel_rfl
theorem run2 (w : World) (os : OsState) : (HandSHeadRun.endF (HandSHeadRun.stepQ (HandSHeadRun.denQ HandSHeadRun.tabQ) R.prog w) 12000 R.prog w os).map (fun s => HandSHeadRun.seenQ qv names (PySem.importedModules R.prog.main.body) (fun s => PySem.W.xlAt qv [] s && PySem.W.recOk R.toRowW.records s) s.abs) = some (PySem.W.openGood qv names) := by kernel_rfl
theorem run3 (w : World) (os : OsState) : (HandSHeadRun.endF (HandSHeadRun.stepQ (HandSHeadRun.denQ HandSHeadRun.tabQ) R.prog w) 12000 R.prog w os).map ob = some qs.val := by kernel_rfl
theorem run (w : World) : HandSHeadRun.RunEq R qv qs.hook ob 12000 names w := fun os => split3 (run1 w os) (run2 w os) (run3 w os)
end Wk
end K11
open PySem PySem.W PyProof.Rows
set_option maxHeartbeats 0 in
theorem PySem.Challenge.cw_restlines_k11_crowds_holds : PySem.Challenge.rw_restlines_k11_crowds.Holds := by
  w_on; o_law
  refine HandSHeadRun.head_any (r := PySem.W.OpenLaw.row PySem.Challenge.rw_restlines_k11_crowds) (q := K11.Wk.qv) (H := K11.Wk.qs.hook) (ob := K11.Wk.ob) (M := 12000) (loose := K11.Wk.names) (d := HandSHeadRun.topDef (PySem.W.OpenLaw.row PySem.Challenge.rw_restlines_k11_crowds).prog 62) (kwd := []) K11.Wk.ob_eq
    (by kernel_rfl) (fun s => by kernel_rfl) K11.Wk.run (by kernel_rfl) (by kernel_rfl) (by kernel_rfl) (by rfl) (by first | assumption | decide +kernel) (by decide +kernel) ⟨rfl, rfl, rfl, rfl, rfl, by decide +kernel⟩ ?hw ?hc
  case hw => w_witness2
  case hc =>
    refine Dt.Hk.walk_h (l := PySem.Challenge.rw_restlines_k11_crowds) (n := 63) (k := 44) (x := "_law_script") rfl (by decide +kernel) rfl (by decide) (by kernel_rfl) ⟨rfl, by decide, by decide⟩ ?F
    intro w K mg fa h c KX G hmg
    have e : (HandSHeadRun.topDef (PySem.W.OpenLaw.row PySem.Challenge.rw_restlines_k11_crowds).prog 62).name = ("law" : PySem.Str) := by kernel_rfl
    rw [e] at hmg
    exact K11.Wk.all_mk (l := PySem.Challenge.rw_restlines_k11_crowds) c KX G hmg
