import PyProof.Rows.All
import Wide.All
import OpenK.AllK
import Wide.FinOn
import HandS.ForMost
import HandS.ForExc
import HandS.Wide
import HandS.CallSlots
import HandS.IsInst
import HandS.Style
import HandS.TupAny
import HandS.EndBits
import HandS.RaiseMore
import HandS.Conv
import HandS.More
import PyProof.ReprRoads
import HandS.SortInts
import HandS.SortRule
import HandS.FStr
import HandS.Text
import HandS.SortOrd
import KE.KDictSum
import PySem.Challenge.RW_restlines_k06_texts
set_option Elab.async false
set_option linter.all false
set_option maxRecDepth 100000
set_option maxHeartbeats 4000000
namespace Dt
open PySem PySem.Spec PyProof.Rows L2
abbrev St := L2.St
inductive D where
  | non
  | bl (b : Bool)
  | int (i : Int)
  | str (x : Str)
  | lst (xs : List D)
  | tup (xs : List D)
  | scr (ns : List Int)
  | dic (ks : List Int) (vs : List D)
  /-- a dict whose keys are tuples of ints and texts -/
  | dct (ks : List (List L2.Key)) (vs : List D)
  /-- some object, by its address -/
  | obj (a : Addr)
  /-- a tuple of ints and texts that was made by the program, a key -/
  | key (ks : List L2.Key)
def kPy : L2.Key → PyData
  | .inl i => .int i
  | .inr x => .str x
mutual
def D.py : D → PyData
  | .non => .none
  | .bl b => .bool b
  | .int i => .int i
  | .str x => .str x
  | .lst xs => .list (D.pys xs)
  | .tup xs => .tuple (D.pys xs)
  | .scr ns => .list (ns.map PyData.int)
  | .dic _ _ => .dict []
  | .dct _ _ => .dict []
  | .obj _ => .dict []
  | .key ks => .tuple (ks.map kPy)
def D.pys : List D → List PyData
  | [] => []
  | x :: xs => D.py x :: D.pys xs
end
def Ex (H H' : Hp) : Prop := ∀ a o, H a = some o → H' a = some o
theorem Ex.refl (H : Hp) : Ex H H := fun _ _ h => h
theorem Ex.trans {H H1 H2 : Hp} (a : Ex H H1) (b : Ex H1 H2) : Ex H H2 := fun x o h => b x o (a x o h)
theorem Ex.new {H : Hp} {p : Addr} {o : HO} (h : H p = none) : Ex H (upd H p o) := fun a u e => by
  rw [upd_ne (ne_of_none e h)]
  exact e
theorem Ex.nn {H H' : Hp} {p : Addr} (e : Ex H H') (h : H' p = none) : H p = none := by
  cases h1 : H p with
  | none => rfl
  | some o => rw [e p o h1] at h; cases h
theorem Ex.both {B H : Hp} {p : Addr} {o : HO} (e : Ex B H) : Ex (upd B p o) (upd H p o) := fun a u h => by
  by_cases q : a = p
  · subst q; rw [upd_same] at h ⊢; exact h
  · rw [upd_ne q] at h ⊢; exact e a u h
theorem Ex.right {B H : Hp} {p : Addr} {o : HO} (e : Ex B H) (h : B p = none) : Ex B (upd H p o) := fun a u q => by
  rw [upd_ne (ne_of_none q h)]; exact e a u q
theorem upd_some {H : Hp} {a p : Addr} {o : HO} (h : H a ≠ none) : upd H p o a ≠ none := by
  by_cases q : a = p
  · subst q; rw [upd_same]; simp
  · rw [upd_ne q]; exact h
theorem Ex.rd {H H' : Hp} {a : Addr} {u : HO} (e : Ex H H') (h : Rd H a u) : Rd H' a u := by
  rcases h with h | ⟨o, h⟩
  · exact Or.inl (e a _ h)
  · exact Or.inr ⟨o, e a _ h⟩
theorem Ex.sl {K : PySem.W.Frag} {H H' : Hp} {a : Addr} {xs : List V} (e : Ex H H') (h : SqL K H a xs) : SqL K H' a xs := by
  rcases h with h | h
  · exact Or.inl (e.rd h)
  · exact Or.inr h
theorem Ex.st {K : PySem.W.Frag} {H H' : Hp} {a : Addr} {xs : List V} (e : Ex H H') (h : SqT K H a xs) : SqT K H' a xs := by
  rcases h with h | h
  · exact Or.inl (e.rd h)
  · exact Or.inr h
def dkt (ks : List (List L2.Key)) (xs : List V) : List (List L2.Key × V) := List.zipWith (fun k v => (k, v)) ks xs
def dkv (ks : List Int) (xs : List V) : List (L2.Key × V) := List.zipWith (fun k v => (Sum.inl k, v)) ks xs
mutual
inductive Fz (K : PySem.W.Frag) (B : Hp) : V → D → Prop
  | non : Fz K B .non .non
  | bl (b : Bool) : Fz K B (.bl b) (.bl b)
  | int (i : Int) : Fz K B (.int i) (.int i)
  | str (x : Str) : Fz K B (.str x) (.str x)
  | lst {a : Addr} {xs : List V} {ds : List D} : B a = some (.lst xs) → Fzs K B xs ds → Fz K B (.ref a) (.lst ds)
  | tup {a : Addr} {xs : List V} {ds : List D} : SqT K B a xs → Fzs K B xs ds → Fz K B (.ref a) (.tup ds)
  | scr {a : Addr} {ns : List Int} : SqL K B a (ns.map V.int) → Fz K B (.ref a) (.scr ns)
  | dic {a : Addr} {ks : List Int} {xs : List V} {ds : List D} : B a = some (.dK (dkv ks xs)) → ks.length = xs.length → Fzs K B xs ds → Fz K B (.ref a) (.dic ks ds)
  | dct {a : Addr} {ks : List (List L2.Key)} {xs : List V} {ds : List D} : Rd B a (.dT (dkt ks xs)) → ks.length = xs.length → Fzs K B xs ds → Fz K B (.ref a) (.dct ks ds)
  | obj (a : Addr) : Fz K B (.ref a) (.obj a)
  | key {a : Addr} {ks : List L2.Key} : B a = some (.tup (ks.map kV)) → Fz K B (.ref a) (.key ks)
inductive Fzs (K : PySem.W.Frag) (B : Hp) : List V → List D → Prop
  | nil : Fzs K B [] []
  | cons {v : V} {vs : List V} {d : D} {ds : List D} : Fz K B v d → Fzs K B vs ds → Fzs K B (v :: vs) (d :: ds)
end
section
variable {K : PySem.W.Frag} {B B' H : Hp}
mutual
theorem Fz.mono {v : V} {d : D} (e : Ex B B') : Fz K B v d → Fz K B' v d
  | .non => .non
  | .bl b => .bl b
  | .int i => .int i
  | .str x => .str x
  | .lst h hs => .lst (e _ _ h) (Fzs.mono e hs)
  | .tup h hs => .tup (e.st h) (Fzs.mono e hs)
  | .scr h => .scr (e.sl h)
  | .dic h l hs => .dic (e _ _ h) l (Fzs.mono e hs)
  | .dct h l hs => .dct (e.rd h) l (Fzs.mono e hs)
  | .obj a => .obj a
  | .key h => .key (e _ _ h)
theorem Fzs.mono {vs : List V} {ds : List D} (e : Ex B B') : Fzs K B vs ds → Fzs K B' vs ds
  | .nil => .nil
  | .cons h hs => .cons (Fz.mono e h) (Fzs.mono e hs)
end
theorem dp_ints : ∀ ns : List Int, DpAll K H (ns.map V.int) (ns.map PyData.int)
  | [] => .nil
  | n :: ns => .cons (.int n) (dp_ints ns)
theorem dp_keys : ∀ ks : List L2.Key, DpAll K H (ks.map kV) (ks.map kPy)
  | [] => .nil
  | .inl n :: ns => .cons (.int n) (dp_keys ns)
  | .inr n :: ns => .cons (.str n) (dp_keys ns)
mutual

def D.nd : D → Bool
  | .lst xs => D.nds xs
  | .tup xs => D.nds xs
  | .dic _ _ | .dct _ _ | .obj _ => false
  | .non | .bl _ | .int _ | .str _ | .scr _ | .key _ => true
def D.nds : List D → Bool
  | [] => true
  | x :: xs => D.nd x && D.nds xs
end
mutual
theorem D.nd_lay : ∀ {d : D}, d.py.canLay0 = true → d.nd = true
  | .non, _ => by simp [D.nd]
  | .bl _, _ => by simp [D.nd]
  | .int _, _ => by simp [D.nd]
  | .str _, _ => by simp [D.nd]
  | .scr _, _ => by simp [D.nd]
  | .lst xs, h => by
    simp only [D.py, PyData.canLay0] at h
    simp only [D.nd]; exact D.nds_lay h
  | .tup xs, h => by
    simp only [D.py, PyData.canLay0] at h
    simp only [D.nd]; exact D.nds_lay h
  | .dic _ _, h => by simp [D.py, PyData.canLay0] at h
  | .dct _ _, h => by simp [D.py, PyData.canLay0] at h
  | .obj _, h => by simp [D.py, PyData.canLay0] at h
  | .key _, _ => by simp [D.nd]
theorem D.nds_lay : ∀ {ds : List D}, PyData.canLayAll0 (D.pys ds) = true → D.nds ds = true
  | [], _ => by simp [D.nds]
  | x :: xs, h => by
    simp only [D.pys, PyData.canLayAll0, Bool.and_eq_true] at h
    simp only [D.nds, Bool.and_eq_true]
    exact ⟨D.nd_lay h.1, D.nds_lay h.2⟩
end
mutual
theorem Fz.dp {v : V} {d : D} (e : Ex B H) (n : d.nd = true) : Fz K B v d → Dp K H v d.py
  | .non => by simp only [D.py]; exact .non
  | .bl b => by simp only [D.py]; exact .bl b
  | .int i => by simp only [D.py]; exact .int i
  | .str x => by simp only [D.py]; exact .str x
  | .lst h hs => by simp only [D.py]; exact .lst (.inl (.inl (e _ _ h))) (Fzs.dp e (by simpa only [D.nd] using n) hs)
  | .tup h hs => by simp only [D.py]; exact .tup (e.st h) (Fzs.dp e (by simpa only [D.nd] using n) hs)
  | .scr h => by simp only [D.py]; exact .lst (e.sl h) (dp_ints _)
  | .dic _ _ _ => by simp [D.nd] at n
  | .dct _ _ _ => by simp [D.nd] at n
  | .obj _ => by simp [D.nd] at n
  | .key h => by simp only [D.py]; exact .tup (e.st (.inl (.inl h))) (dp_keys _)
theorem Fzs.dp {vs : List V} {ds : List D} (e : Ex B H) (n : D.nds ds = true) : Fzs K B vs ds → DpAll K H vs (D.pys ds)
  | .nil => by simp only [D.pys]; exact .nil
  | .cons h hs => by
    simp only [D.nds, Bool.and_eq_true] at n
    simp only [D.pys]
    exact .cons (Fz.dp e n.1 h) (Fzs.dp e n.2 hs)
end
theorem Fzs.len : ∀ {vs : List V} {ds : List D}, Fzs K B vs ds → vs.length = ds.length
  | _, _, .nil => rfl
  | _, _, .cons _ hs => by rw [List.length_cons, List.length_cons, Fzs.len hs]
theorem Fzs.get : ∀ {vs : List V} {ds : List D} {i : Nat} {d : D}, Fzs K B vs ds → ds[i]? = some d → ∃ v, vs[i]? = some v ∧ Fz K B v d
  | _, _, _, _, .nil, e => by simp at e
  | _, _, 0, _, .cons h _, e => by simp at e; subst e; exact ⟨_, rfl, h⟩
  | _, _, i + 1, d, .cons _ hs, e => by
    obtain ⟨v, h1, h2⟩ := Fzs.get (i := i) (d := d) hs (by simpa using e)
    exact ⟨v, by simpa using h1, h2⟩
theorem Fzs.getV : ∀ {vs : List V} {ds : List D} {i : Nat} {v : V}, Fzs K B vs ds → vs[i]? = some v → ∃ d, ds[i]? = some d ∧ Fz K B v d
  | _, _, _, _, .nil, e => by simp at e
  | _, _, 0, _, .cons h _, e => by simp at e; subst e; exact ⟨_, rfl, h⟩
  | _, _, i + 1, d, .cons _ hs, e => by
    obtain ⟨v, h1, h2⟩ := Fzs.getV (i := i) (v := d) hs (by simpa using e)
    exact ⟨v, by simpa using h1, h2⟩
theorem Fzs.append : ∀ {vs ws : List V} {ds es : List D}, Fzs K B vs ds → Fzs K B ws es → Fzs K B (vs ++ ws) (ds ++ es)
  | _, _, _, _, .nil, h => h
  | _, _, _, _, .cons a t, h => .cons a (Fzs.append t h)
theorem Fzs.set : ∀ {vs : List V} {ds : List D} {v : V} {d : D} (i : Nat), Fzs K B vs ds → Fz K B v d → Fzs K B (vs.set i v) (ds.set i d)
  | _, _, _, _, _, .nil, _ => .nil
  | _, _, _, _, 0, .cons _ t, h => .cons h t
  | _, _, _, _, i + 1, .cons a t, h => .cons a (Fzs.set i t h)
theorem Fzs.take : ∀ {vs : List V} {ds : List D} (n : Nat), Fzs K B vs ds → Fzs K B (vs.take n) (ds.take n)
  | _, _, 0, _ => .nil
  | _, _, _ + 1, .nil => .nil
  | _, _, n + 1, .cons a t => .cons a (Fzs.take n t)
theorem Fzs.drop : ∀ {vs : List V} {ds : List D} (n : Nat), Fzs K B vs ds → Fzs K B (vs.drop n) (ds.drop n)
  | _, _, 0, h => h
  | _, _, _ + 1, .nil => .nil
  | _, _, n + 1, .cons a t => Fzs.drop n t
theorem Fzs.ints : ∀ {vs : List V} {ns : List Int}, Fzs K B vs (ns.map D.int) → vs = ns.map V.int
  | _, [], .nil => rfl
  | _, n :: ns, .cons (.int _) t => by rw [List.map_cons, Fzs.ints t]
theorem Fzs.of_ints : ∀ (ns : List Int), Fzs K B (ns.map V.int) (ns.map D.int)
  | [] => .nil
  | n :: ns => .cons (.int n) (Fzs.of_ints ns)
end
mutual

inductive Mk where
  | z
  | l (m : Mk)
  | t (ms : Mks)
inductive Mks where
  | nil
  | cons (m : Mk) (r : Mks)
end
inductive Ob where
  | ff
  | tt
  | dp (m : Mk)
  | al
inductive Slot where
  | un
  | fz (d : D)
  | ow (d : D)
  | io (d : D)
  | dp (m : Mk) (d : D)
abbrev Env := List Slot
def Ct (H : Hp) (a : Addr) : Prop := ∃ o, H a = some o ∧ ∀ xs, o ≠ .tup xs
theorem Ct.ne {H : Hp} {a : Addr} (h : Ct H a) : H a ≠ none := by obtain ⟨o, e, _⟩ := h; rw [e]; simp
theorem Ct.of {H : Hp} {a : Addr} {o : HO} (e : H a = some o) (n : ∀ xs, o ≠ .tup xs) : Ct H a := ⟨o, e, n⟩
theorem Ct.to {H H' : Hp} {a : Addr} (h : Ct H a) (k : ∀ o, H a = some o → H' a = some o) : Ct H' a := by obtain ⟨o, e, n⟩ := h; exact ⟨o, k o e, n⟩
def Ow (K : PySem.W.Frag) (B H : Hp) (a : Addr) : D → Prop
  | .lst ds => B a = none ∧ ∃ vs, H a = some (.lst vs) ∧ Fzs K B vs ds
  | .dic ks ds => B a = none ∧ ∃ vs, H a = some (.dK (dkv ks vs)) ∧ ks.length = vs.length ∧ Fzs K B vs ds
  | .dct ks ds => B a = none ∧ ∃ vs, H a = some (.dT (dkt ks vs)) ∧ ks.length = vs.length ∧ Fzs K B vs ds
  | _ => False
theorem Ow.hid {K : PySem.W.Frag} {B H : Hp} {a : Addr} {d : D} (h : Ow K B H a d) : B a = none := by
  cases d with
  | lst ds => exact h.1
  | dic ks ds => exact h.1
  | dct ks ds => exact h.1
  | _ => exact h.elim
theorem Ow.there {K : PySem.W.Frag} {B H : Hp} {a : Addr} {d : D} (h : Ow K B H a d) : Ct H a := by
  cases d with
  | lst ds => obtain ⟨_, vs, e, _⟩ := h; exact .of e fun _ z => nomatch z
  | dic ks ds => obtain ⟨_, vs, e, _⟩ := h; exact .of e fun _ z => nomatch z
  | dct ks ds => obtain ⟨_, vs, e, _⟩ := h; exact .of e fun _ z => nomatch z
  | _ => exact h.elim
theorem Ow.keep {K : PySem.W.Frag} {B H B' H' : Hp} {a : Addr} {d : D} (h : Ow K B H a d) (e : Ex B B') (h1 : B' a = none) (h2 : ∀ o, H a = some o → H' a = some o) : Ow K B' H' a d := by
  cases d with
  | lst ds => obtain ⟨_, vs, q, f⟩ := h; exact ⟨h1, vs, h2 _ q, f.mono e⟩
  | dic ks ds => obtain ⟨_, vs, q, l, f⟩ := h; exact ⟨h1, vs, h2 _ q, l, f.mono e⟩
  | dct ks ds => obtain ⟨_, vs, q, l, f⟩ := h; exact ⟨h1, vs, h2 _ q, l, f.mono e⟩
  | _ => exact h.elim
theorem Ow.fz {K : PySem.W.Frag} {B H : Hp} {a : Addr} {d : D} (h : Ow K B H a d) : ∃ o, H a = some o ∧ Fz K (upd B a o) (.ref a) d := by
  cases d with
  | lst ds =>
    obtain ⟨n, vs, q, f⟩ := h
    exact ⟨_, q, .lst upd_same (f.mono (Ex.new n))⟩
  | dic ks ds =>
    obtain ⟨n, vs, q, l, f⟩ := h
    exact ⟨_, q, .dic upd_same l (f.mono (Ex.new n))⟩
  | dct ks ds =>
    obtain ⟨n, vs, q, l, f⟩ := h
    exact ⟨_, q, .dct (.inl upd_same) l (f.mono (Ex.new n))⟩
  | _ => exact h.elim
inductive Its (R : V → D → List Addr → Prop) : List V → List D → List Addr → Prop
  | nil : Its R [] [] []
  | cons {v : V} {vs : List V} {d : D} {ds : List D} {S T : List Addr} : R v d S → Its R vs ds T → Its R (v :: vs) (d :: ds) (S ++ T)
mutual
def Tr (K : PySem.W.Frag) (B H : Hp) : Mk → V → D → List Addr → Prop
  | .z, v, d, S => Fz K B v d ∧ S = []
  | .l m, v, d, S => ∃ a vs ds T, v = .ref a ∧ d = .lst ds ∧ B a = none ∧ H a = some (.lst vs) ∧ Its (Tr K B H m) vs ds T ∧ S = a :: T
  | .t ms, v, d, S => ∃ a vs ds, v = .ref a ∧ d = .tup ds ∧ B a = some (.tup vs) ∧ TrT K B H ms vs ds S
def TrT (K : PySem.W.Frag) (B H : Hp) : Mks → List V → List D → List Addr → Prop
  | .nil, vs, ds, S => vs = [] ∧ ds = [] ∧ S = []
  | .cons m r, vs, ds, S => ∃ v vs' d ds' S1 S2, vs = v :: vs' ∧ ds = d :: ds' ∧ Tr K B H m v d S1 ∧ TrT K B H r vs' ds' S2 ∧ S = S1 ++ S2
end
theorem Its.imp {R R' : V → D → List Addr → Prop} {vs : List V} {ds : List D} {S : List Addr} (h : Its R vs ds S) : (∀ v d T, R v d T → (∀ a ∈ T, a ∈ S) → R' v d T) → Its R' vs ds S := by
  induction h with
  | nil => exact fun _ => .nil
  | cons a t ih => exact fun k => .cons (k _ _ _ a fun x hx => List.mem_append_left _ hx) (ih fun v d T r q => k v d T r fun x hx => List.mem_append_right _ (q x hx))
theorem Its.all {R : V → D → List Addr → Prop} {p : Addr → Prop} {vs : List V} {ds : List D} {S : List Addr} (h : Its R vs ds S) (k : ∀ v d T, R v d T → ∀ a ∈ T, p a) : ∀ a ∈ S, p a := by
  induction h with
  | nil => exact fun a q => nomatch q
  | cons a t ih => exact fun x q => (List.mem_append.mp q).elim (k _ _ _ a x) (ih x)
theorem Its.det {R R' : V → D → List Addr → Prop} {vs : List V} {ds ds' : List D} {S S' : List Addr} (h : Its R vs ds S) (h' : Its R' vs ds' S') (k : ∀ v d d' T T', R v d T → R' v d' T' → T = T') : S = S' := by
  induction h generalizing ds' S' with
  | nil => cases h'; rfl
  | cons a t ih =>
    cases h' with
    | cons a' t' => rw [k _ _ _ _ _ a a', ih t']
theorem Its.len {R : V → D → List Addr → Prop} {vs : List V} {ds : List D} {S : List Addr} (h : Its R vs ds S) : vs.length = ds.length := by
  induction h with
  | nil => rfl
  | cons a t ih => rw [List.length_cons, List.length_cons, ih]
section
variable {K : PySem.W.Frag} {B B' H H' : Hp}
mutual
theorem Tr.keep : ∀ {m : Mk} {v : V} {d : D} {S : List Addr}, Tr K B H m v d S → Ex B B' → (∀ a ∈ S, B' a = none) → (∀ a ∈ S, ∀ o, H a = some o → H' a = some o) → Tr K B' H' m v d S
  | .z, _, _, _, h, e, _, _ => by
    unfold Tr at h ⊢
    exact ⟨h.1.mono e, h.2⟩
  | .l m, _, _, _, h, e, h1, h2 => by
    unfold Tr at h ⊢
    obtain ⟨a, vs, ds, T, rfl, rfl, b, q, i, rfl⟩ := h
    exact ⟨a, vs, ds, T, rfl, rfl, h1 a (by simp), h2 a (by simp) _ q, i.imp fun v d T' r s => Tr.keep (m := m) r e (fun x hx => h1 x (List.mem_cons_of_mem _ (s x hx))) (fun x hx => h2 x (List.mem_cons_of_mem _ (s x hx))), rfl⟩
  | .t ms, _, _, _, h, e, h1, h2 => by
    unfold Tr at h ⊢
    obtain ⟨a, vs, ds, rfl, rfl, b, i⟩ := h
    exact ⟨a, vs, ds, rfl, rfl, e _ _ b, TrT.keep (ms := ms) i e h1 h2⟩
theorem TrT.keep : ∀ {ms : Mks} {vs : List V} {ds : List D} {S : List Addr}, TrT K B H ms vs ds S → Ex B B' → (∀ a ∈ S, B' a = none) → (∀ a ∈ S, ∀ o, H a = some o → H' a = some o) → TrT K B' H' ms vs ds S
  | .nil, _, _, _, h, _, _, _ => by
    unfold TrT at h ⊢
    exact h
  | .cons m r, _, _, _, h, e, h1, h2 => by
    unfold TrT at h ⊢
    obtain ⟨v, vs, d, ds, S1, S2, rfl, rfl, t1, t2, rfl⟩ := h
    exact ⟨v, vs, d, ds, S1, S2, rfl, rfl, Tr.keep (m := m) t1 e (fun x hx => h1 x (List.mem_append_left _ hx)) (fun x hx => h2 x (List.mem_append_left _ hx)), TrT.keep (ms := r) t2 e (fun x hx => h1 x (List.mem_append_right _ hx)) (fun x hx => h2 x (List.mem_append_right _ hx)), rfl⟩
end
mutual
theorem Tr.det : ∀ {m : Mk} {v : V} {d d' : D} {S S' : List Addr}, Tr K B H m v d S → Tr K B H m v d' S' → S = S'
  | .z, _, _, _, _, _, h, h' => by
    unfold Tr at h h'
    rw [h.2, h'.2]
  | .l m, _, _, _, _, _, h, h' => by
    unfold Tr at h h'
    obtain ⟨a, vs, ds, T, rfl, rfl, b, q, i, rfl⟩ := h
    obtain ⟨a', vs', ds', T', e, rfl, b', q', i', rfl⟩ := h'
    injection e with e; subst e
    rw [q] at q'; injection q' with q'; injection q' with q'; subst q'
    rw [i.det i' fun v d d' T T' r r' => Tr.det (m := m) r r']
  | .t ms, _, _, _, _, _, h, h' => by
    unfold Tr at h h'
    obtain ⟨a, vs, ds, rfl, rfl, b, i⟩ := h
    obtain ⟨a', vs', ds', e, rfl, b', i'⟩ := h'
    injection e with e; subst e
    rw [b] at b'; injection b' with b'; injection b' with b'; subst b'
    rw [TrT.det (ms := ms) i i']
theorem TrT.det : ∀ {ms : Mks} {vs : List V} {ds ds' : List D} {S S' : List Addr}, TrT K B H ms vs ds S → TrT K B H ms vs ds' S' → S = S'
  | .nil, _, _, _, _, _, h, h' => by
    unfold TrT at h h'
    rw [h.2.2, h'.2.2]
  | .cons m r, _, _, _, _, _, h, h' => by
    unfold TrT at h h'
    obtain ⟨v, vs, d, ds, S1, S2, rfl, rfl, t1, t2, rfl⟩ := h
    obtain ⟨v', vs', d', ds', S1', S2', e, rfl, t1', t2', rfl⟩ := h'
    injection e with e1 e2; subst e1; subst e2
    rw [Tr.det (m := m) t1 t1', TrT.det (ms := r) t2 t2']
end
mutual
theorem Tr.hid : ∀ {m : Mk} {v : V} {d : D} {S : List Addr}, Tr K B H m v d S → ∀ a ∈ S, B a = none ∧ Ct H a
  | .z, _, _, _, h => by
    unfold Tr at h
    rw [h.2]; exact fun a q => nomatch q
  | .l m, _, _, _, h => by
    unfold Tr at h
    obtain ⟨a, vs, ds, T, rfl, rfl, b, q, i, rfl⟩ := h
    intro x hx
    rcases List.mem_cons.mp hx with rfl | hx
    · exact ⟨b, .of q fun _ z => nomatch z⟩
    · exact i.all (fun v d T r => Tr.hid (m := m) r) x hx
  | .t ms, _, _, _, h => by
    unfold Tr at h
    obtain ⟨a, vs, ds, rfl, rfl, b, i⟩ := h
    exact TrT.hid (ms := ms) i
theorem TrT.hid : ∀ {ms : Mks} {vs : List V} {ds : List D} {S : List Addr}, TrT K B H ms vs ds S → ∀ a ∈ S, B a = none ∧ Ct H a
  | .nil, _, _, _, h => by
    unfold TrT at h
    rw [h.2.2]; exact fun a q => nomatch q
  | .cons m r, _, _, _, h => by
    unfold TrT at h
    obtain ⟨v, vs, d, ds, S1, S2, rfl, rfl, t1, t2, rfl⟩ := h
    exact fun x hx => (List.mem_append.mp hx).elim (Tr.hid (m := m) t1 x) (TrT.hid (ms := r) t2 x)
end
def frzB (B H : Hp) (S : List Addr) : Hp := fun a => if a ∈ S then H a else B a
theorem frzB_in {S : List Addr} {a : Addr} (h : a ∈ S) : frzB B H S a = H a := if_pos h
theorem frzB_out {S : List Addr} {a : Addr} (h : a ∉ S) : frzB B H S a = B a := if_neg h
theorem frzB_ex {S : List Addr} (ex : Ex B H) : Ex B (frzB B H S) := fun a o e => by
  by_cases h : a ∈ S
  · rw [frzB_in h]; exact ex a o e
  · rw [frzB_out h]; exact e
theorem frzB_up {S : List Addr} (ex : Ex B H) : Ex (frzB B H S) H := fun a o e => by
  by_cases h : a ∈ S
  · rw [frzB_in h] at e; exact e
  · rw [frzB_out h] at e; exact ex a o e
theorem Its.fzs {m : Mk} {T : List Addr} {vs : List V} {ds : List D} {S : List Addr} (k : ∀ v d S, Tr K B H m v d S → (∀ a ∈ S, a ∈ T) → Fz K (frzB B H T) v d) (h : Its (Tr K B H m) vs ds S) : (∀ a ∈ S, a ∈ T) → Fzs K (frzB B H T) vs ds := by
  induction h with
  | nil => exact fun _ => .nil
  | cons a t ih => exact fun hs => .cons (k _ _ _ a fun x hx => hs x (List.mem_append_left _ hx)) (ih fun x hx => hs x (List.mem_append_right _ hx))
mutual
theorem Tr.fz (ex : Ex B H) {T : List Addr} : ∀ {m : Mk} {v : V} {d : D} {S : List Addr}, Tr K B H m v d S → (∀ a ∈ S, a ∈ T) → Fz K (frzB B H T) v d
  | .z, _, _, _, h, _ => by
    unfold Tr at h
    exact h.1.mono (frzB_ex ex)
  | .l m, _, _, _, h, s => by
    unfold Tr at h
    obtain ⟨a, vs, ds, S, rfl, rfl, b, q, i, rfl⟩ := h
    exact .lst (by rw [frzB_in (s a (by simp))]; exact q) (i.fzs (fun v d S r => Tr.fz ex (m := m) r) fun x hx => s x (List.mem_cons_of_mem _ hx))
  | .t ms, _, _, _, h, s => by
    unfold Tr at h
    obtain ⟨a, vs, ds, rfl, rfl, b, i⟩ := h
    exact .tup (.inl (.inl (frzB_ex ex _ _ b))) (TrT.fz ex (ms := ms) i s)
theorem TrT.fz (ex : Ex B H) {T : List Addr} : ∀ {ms : Mks} {vs : List V} {ds : List D} {S : List Addr}, TrT K B H ms vs ds S → (∀ a ∈ S, a ∈ T) → Fzs K (frzB B H T) vs ds
  | .nil, _, _, _, h, _ => by
    unfold TrT at h
    obtain ⟨rfl, rfl, _⟩ := h
    exact .nil
  | .cons m r, _, _, _, h, s => by
    unfold TrT at h
    obtain ⟨v, vs, d, ds, S1, S2, rfl, rfl, t1, t2, rfl⟩ := h
    exact .cons (Tr.fz ex (m := m) t1 fun x hx => s x (List.mem_append_left _ hx)) (TrT.fz ex (ms := r) t2 fun x hx => s x (List.mem_append_right _ hx))
end
end
structure Fr where
  B0 : Hp
  H0 : Hp
  A : Addr → Prop
  P : List (Option Addr)
def owned : Slot → Bool
  | .ow _ => true
  | .io _ => true
  | .dp _ _ => true
  | _ => false
def flat : Slot → Bool
  | .ow _ => true
  | .io _ => true
  | _ => false
theorem flat_owned {s : Slot} (h : flat s = true) : owned s = true := by cases s <;> first | rfl | cases h
def Slot.dat : Slot → D
  | .un => .non
  | .fz d => d
  | .ow d => d
  | .io d => d
  | .dp _ d => d
def Ft (K : PySem.W.Frag) (B H : Hp) (v : V) : Slot → List Addr → Prop
  | .ow d, S => ∃ a, v = .ref a ∧ Ow K B H a d ∧ S = [a]
  | .io d, S => ∃ a, v = .ref a ∧ Ow K B H a d ∧ S = [a]
  | .dp m d, S => Tr K B H m v d S ∧ S.Nodup
  | .un, _ => False
  | .fz _, _ => False
section
variable {K : PySem.W.Frag} {B B' H H' : Hp} {v : V} {s : Slot} {S T : List Addr}
theorem Ft.owned (h : Ft K B H v s S) : owned s = true := by cases s <;> first | rfl | exact h.elim
theorem Ft.hid (h : Ft K B H v s S) : ∀ a ∈ S, B a = none ∧ Ct H a := by
  cases s with
  | un => exact h.elim
  | fz _ => exact h.elim
  | ow d => obtain ⟨a, rfl, w, rfl⟩ := h; intro x hx; rw [List.mem_singleton.mp hx]; exact ⟨w.hid, w.there⟩
  | io d => obtain ⟨a, rfl, w, rfl⟩ := h; intro x hx; rw [List.mem_singleton.mp hx]; exact ⟨w.hid, w.there⟩
  | dp m d => exact h.1.hid
theorem Ft.keep (h : Ft K B H v s S) (e : Ex B B') (h1 : ∀ a ∈ S, B' a = none) (h2 : ∀ a ∈ S, ∀ o, H a = some o → H' a = some o) : Ft K B' H' v s S := by
  cases s with
  | un => exact h.elim
  | fz _ => exact h.elim
  | ow d => obtain ⟨a, rfl, w, rfl⟩ := h; exact ⟨a, rfl, w.keep e (h1 a (by simp)) (h2 a (by simp)), rfl⟩
  | io d => obtain ⟨a, rfl, w, rfl⟩ := h; exact ⟨a, rfl, w.keep e (h1 a (by simp)) (h2 a (by simp)), rfl⟩
  | dp m d => exact ⟨h.1.keep e h1 h2, h.2⟩
theorem Ft.det (h : Ft K B H v s S) (h' : Ft K B H v s T) : S = T := by
  cases s with
  | un => exact h.elim
  | fz _ => exact h.elim
  | ow d => obtain ⟨a, rfl, w, rfl⟩ := h; obtain ⟨a', e, w', rfl⟩ := h'; injection e with e; rw [e]
  | io d => obtain ⟨a, rfl, w, rfl⟩ := h; obtain ⟨a', e, w', rfl⟩ := h'; injection e with e; rw [e]
  | dp m d => exact h.1.det h'.1
theorem Ft.one {a : Addr} (h : Ft K B H (.ref a) s S) (f : flat s = true) : Ow K B H a s.dat ∧ S = [a] := by
  cases s with
  | ow d => obtain ⟨a', e, w, rfl⟩ := h; injection e with e; subst e; exact ⟨w, rfl⟩
  | io d => obtain ⟨a', e, w, rfl⟩ := h; injection e with e; subst e; exact ⟨w, rfl⟩
  | _ => cases f
theorem Ft.mk {a : Addr} (w : Ow K B H a s.dat) (f : flat s = true) : Ft K B H (.ref a) s [a] := by
  cases s with
  | ow d => exact ⟨a, rfl, w, rfl⟩
  | io d => exact ⟨a, rfl, w, rfl⟩
  | _ => cases f
end
def OwS (K : PySem.W.Frag) (B H : Hp) (ρ : Env) (σ : St) (a : Addr) : Prop := ∃ (i : Nat) (s : Slot) (v : V) (S : List Addr), ρ[i]? = some s ∧ σ[i]? = some (some v) ∧ Ft K B H v s S ∧ a ∈ S
structure Lv (K : PySem.W.Frag) (F : Fr) (ρ : Env) (σ : St) (B H : Hp) : Prop where
  ex : Ex B H
  kept : ∀ a o, F.H0 a = some o → ¬ F.A a → H a = some o
  there : ∀ a, F.H0 a ≠ none → H a ≠ none
  exB : Ex F.B0 B
  hid : ∀ a, F.B0 a = none → Ct F.H0 a → ¬ F.A a → B a = none
  fz : ∀ (i : Nat) (d : D), ρ[i]? = some (Slot.fz d) → ∃ v, σ[i]? = some (some v) ∧ Fz K B v d
  own0 : ∀ (i : Nat) (s : Slot), ρ[i]? = some s → owned s = true → ∃ v S, σ[i]? = some (some v) ∧ Ft K B H v s S ∧ ∀ a ∈ S, F.A a ∨ F.H0 a = none
  io : ∀ (i : Nat) (d : D), ρ[i]? = some (Slot.io d) → ∃ a, F.P[i]? = some (some a) ∧ σ[i]? = some (some (V.ref a))
  ne0 : ∀ (i j : Nat) (s t : Slot) (v w : V) (S T : List Addr) (a : Addr), ρ[i]? = some s → ρ[j]? = some t → σ[i]? = some (some v) → σ[j]? = some (some w) → Ft K B H v s S → Ft K B H w t T → a ∈ S → a ∈ T → i = j
  len : ρ.length = σ.length
section
variable {K : PySem.W.Frag} {F : Fr} {ρ : Env} {σ : St} {B H B' H' : Hp} {t : Slot}
theorem Lv.ow (L : Lv K F ρ σ B H) (i : Nat) (s : Slot) (e : ρ[i]? = some s) (f : flat s = true) : ∃ a, σ[i]? = some (some (V.ref a)) ∧ Ow K B H a s.dat ∧ (F.A a ∨ F.H0 a = none) := by
  obtain ⟨v, S, q, w, g⟩ := L.own0 i s e (flat_owned f)
  have hv : ∃ a, v = .ref a := by
    cases s with
    | ow d => obtain ⟨a, h, _⟩ := w; exact ⟨a, h⟩
    | io d => obtain ⟨a, h, _⟩ := w; exact ⟨a, h⟩
    | _ => cases f
  obtain ⟨a, rfl⟩ := hv
  obtain ⟨w1, rfl⟩ := w.one f
  exact ⟨a, q, w1, g a (by simp)⟩
theorem OwS.mk {i : Nat} {s : Slot} {a : Addr} (e : ρ[i]? = some s) (f : flat s = true) (q : σ[i]? = some (some (V.ref a))) (w : Ow K B H a s.dat) : OwS K B H ρ σ a := ⟨i, s, _, [a], e, q, .mk w f, by simp⟩
theorem Lv.hidOw (L : Lv K F ρ σ B H) {a : Addr} (h : OwS K B H ρ σ a) : B a = none ∧ Ct H a := by
  obtain ⟨i, s, v, S, e, q, w, m⟩ := h
  exact w.hid a m
theorem Lv.ofOw (L : Lv K F ρ σ B H) {a : Addr} (h : OwS K B H ρ σ a) : F.A a ∨ F.H0 a = none := by
  obtain ⟨i, s, v, S, e, q, w, m⟩ := h
  obtain ⟨v', S', q', w', g⟩ := L.own0 i s e w.owned
  rw [q] at q'; injection q' with q'; injection q' with q'; subst q'
  rw [w.det w'] at m
  exact g a m
theorem Lv.move (L : Lv K F ρ σ B H) (ex : Ex B' H') (eB : Ex B B') (k : ∀ a, OwS K B H ρ σ a → B' a = none ∧ ∀ o, H a = some o → H' a = some o)
    (kept : ∀ a o, F.H0 a = some o → ¬ F.A a → H' a = some o) (there : ∀ a, F.H0 a ≠ none → H' a ≠ none) (hid : ∀ a, F.B0 a = none → Ct F.H0 a → ¬ F.A a → B' a = none) : Lv K F ρ σ B' H' := by
  have kp : ∀ {i : Nat} {s : Slot} {v : V} {S : List Addr}, ρ[i]? = some s → σ[i]? = some (some v) → Ft K B H v s S → Ft K B' H' v s S := fun {i s v S} e q w =>
    w.keep eB (fun a m => (k a ⟨i, s, v, S, e, q, w, m⟩).1) (fun a m => (k a ⟨i, s, v, S, e, q, w, m⟩).2)
  refine ⟨ex, kept, there, L.exB.trans eB, hid, fun i d e => ?_, fun i s e w => ?_, L.io, fun i j s t v w S T a e1 e2 q1 q2 f1 f2 m1 m2 => ?_, L.len⟩
  · obtain ⟨v, e1, f⟩ := L.fz i d e
    exact ⟨v, e1, f.mono eB⟩
  · obtain ⟨v, S, q, f, g⟩ := L.own0 i s e w
    exact ⟨v, S, q, kp e q f, g⟩
  · obtain ⟨v', S', q1', f1', _⟩ := L.own0 i s e1 f1.owned
    obtain ⟨w', T', q2', f2', _⟩ := L.own0 j t e2 f2.owned
    rw [q1] at q1'; injection q1' with q1'; injection q1' with q1'; subst q1'
    rw [q2] at q2'; injection q2' with q2'; injection q2' with q2'; subst q2'
    rw [f1.det (kp e1 q1 f1')] at m1
    rw [f2.det (kp e2 q2 f2')] at m2
    exact L.ne0 i j s t v w S' T' a e1 e2 q1 q2 f1' f2' m1 m2
theorem Lv.few (L : Lv K F ρ σ B H) {ρ' : Env} {σ' : St} (len : ρ'.length = σ'.length) (fz : ∀ (i : Nat) (d : D), ρ'[i]? = some (Slot.fz d) → ∃ v, σ'[i]? = some (some v) ∧ Fz K B v d)
    (ow : ∀ (i : Nat) (s : Slot), ρ'[i]? = some s → owned s = true → ρ[i]? = some s ∧ σ'[i]? = σ[i]?) : Lv K F ρ' σ' B H := by
  refine ⟨L.ex, L.kept, L.there, L.exB, L.hid, fz, fun i s e w => ?_, fun i d e => ?_, fun i j s t v w S T a e1 e2 q1 q2 f1 f2 m1 m2 => ?_, len⟩
  · obtain ⟨h1, h2⟩ := ow i s e w
    rw [h2]; exact L.own0 i s h1 w
  · obtain ⟨h1, h2⟩ := ow i _ e rfl
    rw [h2]; exact L.io i d h1
  · obtain ⟨h1, h2⟩ := ow i s e1 f1.owned
    obtain ⟨h3, h4⟩ := ow j t e2 f2.owned
    exact L.ne0 i j s t v w S T a h1 h3 (h2 ▸ q1) (h4 ▸ q2) f1 f2 m1 m2
theorem Lv.alloc (L : Lv K F ρ σ B H) {p : Addr} {o : HO} (h : H p = none) : Lv K F ρ σ (upd B p o) (upd H p o) := by
  have nB : B p = none := L.ex.nn h
  refine L.move L.ex.both (Ex.new nB) (fun a w => ?_) (fun a u e n => ?_) (fun a e => upd_some (L.there a e)) (fun a e n m => ?_)
  · have nap : a ≠ p := fun z => (L.hidOw w).2.ne (z ▸ h)
    exact ⟨by rw [upd_ne nap]; exact (L.hidOw w).1, fun u q => by rw [upd_ne nap]; exact q⟩
  · have := L.kept a u e n
    rw [upd_ne (ne_of_none this h)]; exact this
  · have := L.hid a e n m
    by_cases q : a = p
    · subst q
      cases z : F.H0 a with
      | none => exact absurd z n.ne
      | some u => rw [L.kept a u z m] at h; cases h
    · rw [upd_ne q]; exact this
theorem Lv.allocO (L : Lv K F ρ σ B H) {p : Addr} {o : HO} (h : H p = none) : Lv K F ρ σ B (upd H p o) := by
  have nB : B p = none := L.ex.nn h
  refine L.move (L.ex.right nB) (Ex.refl _) (fun a w => ?_) (fun a u e n => ?_) (fun a e => upd_some (L.there a e)) L.hid
  · have nap : a ≠ p := fun z => (L.hidOw w).2.ne (z ▸ h)
    exact ⟨(L.hidOw w).1, fun u q => by rw [upd_ne nap]; exact q⟩
  · have := L.kept a u e n
    rw [upd_ne (ne_of_none this h)]; exact this
theorem Lv.freezeS (L : Lv K F ρ σ B H) {S : List Addr} (g : ∀ a ∈ S, F.A a ∨ F.H0 a = none) (no : ∀ a ∈ S, ¬ OwS K B H ρ σ a) : Lv K F ρ σ (frzB B H S) H := by
  refine L.move (frzB_up L.ex) (frzB_ex L.ex) (fun a w => ?_) L.kept L.there (fun a e m k => ?_)
  · exact ⟨by rw [frzB_out fun z => no a z w]; exact (L.hidOw w).1, fun _ q => q⟩
  · rw [frzB_out fun z => (g a z).elim k m.ne]; exact L.hid a e m k
theorem Lv.freeze (L : Lv K F ρ σ B H) {p : Addr} {o : HO} (h : H p = some o) (n : B p = none) (g : F.A p ∨ F.H0 p = none) (no : ¬ OwS K B H ρ σ p) : Lv K F ρ σ (upd B p o) H := by
  have e : frzB B H [p] = upd B p o := by
    funext a
    by_cases z : a = p
    · subst z; rw [frzB_in (by simp), upd_same, h]
    · rw [frzB_out (by simpa using z), upd_ne z]
  rw [← e]
  exact L.freezeS (by simpa using g) (by simpa using no)
theorem Lv.freezeT (L : Lv K F ρ σ B H) {p : Addr} {xs : List V} (h : H p = some (.tup xs)) (n : B p = none) : Lv K F ρ σ (upd B p (.tup xs)) H := by
  refine L.move (fun a o e => ?_) (Ex.new n) (fun a w => ?_) L.kept L.there (fun a e m k => ?_)
  · by_cases z : a = p
    · subst z; rw [upd_same] at e; injection e with e; subst e; exact h
    · rw [upd_ne z] at e; exact L.ex a o e
  · have nap : a ≠ p := fun z => by
      subst z
      obtain ⟨o, e, no⟩ := (L.hidOw w).2
      rw [h] at e; injection e with e; exact no xs e.symm
    exact ⟨by rw [upd_ne nap]; exact (L.hidOw w).1, fun _ q => q⟩
  · have nap : a ≠ p := fun z => by
      subst z
      obtain ⟨o, e, no⟩ := m
      have := L.kept a o e k
      rw [h] at this; injection this with this; exact no xs this.symm
    rw [upd_ne nap]; exact L.hid a e m k
theorem get_set {ρ : Env} {i j : Nat} {t s : Slot} (e : (ρ.set i t)[j]? = some s) : (j = i ∧ s = t ∧ i < ρ.length) ∨ (j ≠ i ∧ ρ[j]? = some s) := by
  by_cases h : i = j
  · subst h
    by_cases l : i < ρ.length
    · rw [List.getElem?_set_self l] at e
      injection e with e; exact .inl ⟨rfl, e.symm, l⟩
    · rw [List.getElem?_eq_none (by rw [List.length_set]; omega)] at e; cases e
  · rw [List.getElem?_set_ne h] at e
    exact .inr ⟨fun z => h z.symm, e⟩
theorem Lv.slot (L : Lv K F ρ σ B H) {i : Nat} {t : Slot} (hn : owned t = false) (hf : ∀ d, t = .fz d → i < ρ.length → ∃ v, σ[i]? = some (some v) ∧ Fz K B v d) : Lv K F (ρ.set i t) σ B H := by
  refine L.few (by rw [List.length_set]; exact L.len) (fun j d e => ?_) (fun j s e w => ?_)
  · rcases get_set e with ⟨rfl, z, l⟩ | ⟨_, e⟩
    · exact hf d z.symm l
    · exact L.fz j d e
  · rcases get_set e with ⟨rfl, z, l⟩ | ⟨_, e⟩
    · rw [z, hn] at w; cases w
    · exact ⟨e, rfl⟩
theorem OwS.un {i : Nat} {a : Addr} (h : OwS K B H (ρ.set i .un) σ a) : ∃ (j : Nat) (s : Slot) (v : V) (S : List Addr), j ≠ i ∧ ρ[j]? = some s ∧ σ[j]? = some (some v) ∧ Ft K B H v s S ∧ a ∈ S := by
  obtain ⟨j, s, v, S, e, q, f, m⟩ := h
  rcases get_set e with ⟨rfl, z, l⟩ | ⟨n, e⟩
  · rw [z] at f; exact f.elim
  · exact ⟨j, s, v, S, n, e, q, f, m⟩
theorem Lv.take (L : Lv K F ρ σ B H) {i : Nat} {s : Slot} (e : ρ[i]? = some s) (w : owned s = true) : ∃ v S, σ[i]? = some (some v) ∧ Ft K B H v s S ∧ (∀ a ∈ S, F.A a ∨ F.H0 a = none) ∧ (∀ a ∈ S, ¬ OwS K B H (ρ.set i .un) σ a) ∧ Lv K F (ρ.set i .un) σ B H := by
  obtain ⟨v, S, q, f, g⟩ := L.own0 i s e w
  refine ⟨v, S, q, f, g, fun a m h => ?_, L.slot rfl (fun d z => nomatch z)⟩
  obtain ⟨j, s', v', S', n, e', q', f', m'⟩ := h.un
  exact n (L.ne0 j i s' s v' v S' S a e' e q' q f' f m' m)
theorem Lv.frz0 (L : Lv K F ρ σ B H) {i : Nat} {s : Slot} (e : ρ[i]? = some s) (w : owned s = true) : ∃ B' v, Ex B B' ∧ σ[i]? = some (some v) ∧ Fz K B' v s.dat ∧ Lv K F (ρ.set i (.fz s.dat)) σ B' H := by
  obtain ⟨v, S, q, f, g, no, L1⟩ := L.take e w
  have l : i < ρ.length := (List.getElem?_eq_some_iff.mp e).1
  have L2 := L1.freezeS g no
  have h2 : Fz K (frzB B H S) v s.dat := by
    have flt : ∀ {a : Addr} {d : D}, v = .ref a → Ow K B H a d → S = [a] → Fz K (frzB B H S) v d := by
      intro a d e1 w1 e2
      subst e1; subst e2
      obtain ⟨o, h1, h2⟩ := w1.fz
      refine h2.mono fun b u hb => ?_
      by_cases z : b = a
      · subst z; rw [upd_same] at hb; rw [frzB_in (by simp), h1]; exact hb
      · rw [upd_ne z] at hb; rw [frzB_out (by simpa using z)]; exact hb
    cases s with
    | un => cases w
    | fz _ => cases w
    | ow d => obtain ⟨a, e1, w1, e2⟩ := f; exact flt e1 w1 e2
    | io d => obtain ⟨a, e1, w1, e2⟩ := f; exact flt e1 w1 e2
    | dp m d => exact f.1.fz L.ex fun a m => m
  refine ⟨_, v, frzB_ex L.ex, q, h2, ?_⟩
  have L3 := L2.slot (i := i) (t := .fz s.dat) rfl (fun d' z _ => by injection z with z; subst z; exact ⟨_, q, h2⟩)
  rw [List.set_set] at L3
  exact L3
theorem Lv.frz (L : Lv K F ρ σ B H) {i : Nat} {d : D} (e : ρ[i]? = some (.ow d)) : ∃ B' v, Ex B B' ∧ σ[i]? = some (some v) ∧ Fz K B' v d ∧ Lv K F (ρ.set i (.fz d)) σ B' H := L.frz0 e rfl
theorem Lv.free (L : Lv K F ρ σ B H) {p : Addr} (h : H p = none) : F.H0 p = none := by
  cases q : F.H0 p with
  | none => rfl
  | some o => exact absurd h (L.there p (by rw [q]; simp))
theorem Lv.own (L : Lv K F ρ σ B H) {i : Nat} {t : Slot} {v : V} {S : List Addr} (e : σ[i]? = some (some v)) (w : Ft K B H v t S) (g : ∀ a ∈ S, F.A a ∨ F.H0 a = none) (no : ∀ a ∈ S, ¬ OwS K B H (ρ.set i .un) σ a)
    (hp : ∀ d, t = .io d → ∃ a, v = .ref a ∧ F.P[i]? = some (some a)) : Lv K F (ρ.set i t) σ B H := by
  have ht := w.owned
  have inj : ∀ {u : V}, σ[i]? = some (some u) → u = v := fun {u} q => by rw [e] at q; injection q with q; injection q with q; exact q.symm
  have non : ∀ {j : Nat} {s : Slot} {u : V} {T : List Addr} {a : Addr}, j ≠ i → ρ[j]? = some s → σ[j]? = some (some u) → Ft K B H u s T → a ∈ T → a ∈ S → False := fun {j s u T a} n e1 q f m m2 =>
    no a m2 ⟨j, s, u, T, by rw [List.getElem?_set_ne (Ne.symm n)]; exact e1, q, f, m⟩
  refine ⟨L.ex, L.kept, L.there, L.exB, L.hid, fun j d e1 => ?_, fun j s e1 w1 => ?_, fun j d e1 => ?_, fun j k s u b c S1 T1 a e1 e2 q1 q2 f1 f2 m1 m2 => ?_, by rw [List.length_set]; exact L.len⟩
  · rcases get_set e1 with ⟨rfl, z, l⟩ | ⟨n, e1⟩
    · rw [← z] at ht; cases ht
    · exact L.fz j d e1
  · rcases get_set e1 with ⟨rfl, z, l⟩ | ⟨n, e1⟩
    · rw [z]; exact ⟨v, S, e, w, g⟩
    · exact L.own0 j s e1 w1
  · rcases get_set e1 with ⟨rfl, z, l⟩ | ⟨n, e1⟩
    · obtain ⟨a, h1, h2⟩ := hp d z.symm
      exact ⟨a, h2, by rw [e, h1]⟩
    · exact L.io j d e1
  · rcases get_set e1 with ⟨rfl, z, l⟩ | ⟨n, e1⟩
    · rcases get_set e2 with ⟨rfl, z2, l⟩ | ⟨n2, e2⟩
      · rfl
      · rw [z, inj q1] at f1
        rw [f1.det w] at m1
        exact (non n2 e2 q2 f2 m2 m1).elim
    · rcases get_set e2 with ⟨z1, z, l⟩ | ⟨n2, e2⟩
      · rw [z1] at q2
        rw [z, inj q2] at f2
        rw [f2.det w] at m2
        exact (non n e1 q1 f1 m1 m2).elim
      · exact L.ne0 j k s u b c S1 T1 a e1 e2 q1 q2 f1 f2 m1 m2
theorem Lv.store (L : Lv K F ρ σ B H) {i : Nat} {v : V} (hn : owned t = false) (hf : ∀ d, t = .fz d → Fz K B v d) : Lv K F (ρ.set i t) (σ.set i (some v)) B H := by
  have sg : ∀ {j : Nat}, j ≠ i → (σ.set i (some v))[j]? = σ[j]? := fun {j} h => List.getElem?_set_ne (Ne.symm h)
  refine L.few (by rw [List.length_set, List.length_set]; exact L.len) (fun j d e1 => ?_) (fun j s e1 w1 => ?_)
  · rcases get_set e1 with ⟨rfl, z, l⟩ | ⟨n, e1⟩
    · exact ⟨v, List.getElem?_set_self (by rw [← L.len]; exact l), hf d z.symm⟩
    · rw [sg n]; exact L.fz j d e1
  · rcases get_set e1 with ⟨rfl, z, l⟩ | ⟨n, e1⟩
    · rw [z, hn] at w1; cases w1
    · exact ⟨e1, sg n⟩
theorem OwS.store {i : Nat} {v : V} {a : Addr} (h : OwS K B H (ρ.set i .un) (σ.set i (some v)) a) : OwS K B H ρ σ a := by
  obtain ⟨j, s, u, S, n, e, q, f, m⟩ := h.un
  rw [List.getElem?_set_ne (Ne.symm n)] at q
  exact ⟨j, s, u, S, e, q, f, m⟩
theorem Lv.hidW0 (L : Lv K F ρ σ B H) {p : Addr} {o : HO} (hB : B p = none) (g : F.A p ∨ F.H0 p = none) (no : ¬ OwS K B H ρ σ p) : Lv K F ρ σ B (upd H p o) := by
  refine L.move (L.ex.right hB) (Ex.refl _) (fun a w => ?_) (fun a u e n => ?_) (fun a e => upd_some (L.there a e)) L.hid
  · have nap : a ≠ p := fun z => no (z ▸ w)
    exact ⟨(L.hidOw w).1, fun u q => by rw [upd_ne nap]; exact q⟩
  · have na : a ≠ p := fun z => by
      subst z
      rcases g with g | g
      · exact n g
      · rw [g] at e; cases e
    rw [upd_ne na]; exact L.kept a u e n
theorem OwS.chg {p a : Addr} {o : HO} (L : Lv K F ρ σ B H) (no : ¬ OwS K B H ρ σ p) (h : OwS K B (upd H p o) ρ σ a) : OwS K B H ρ σ a := by
  obtain ⟨i, s, v, S, e, q, f, m⟩ := h
  obtain ⟨v', S', q', f', g⟩ := L.own0 i s e f.owned
  rw [q] at q'; injection q' with q'; injection q' with q'; subst q'
  have f2 : Ft K B (upd H p o) v s S' := f'.keep (Ex.refl _) (fun b hb => (f'.hid b hb).1) (fun b hb u e1 => by
    have nb : b ≠ p := fun z => no (z ▸ ⟨i, s, v, S', e, q, f', hb⟩)
    rw [upd_ne nb]; exact e1)
  rw [f.det f2] at m
  exact ⟨i, s, v, S', e, q, f', m⟩
theorem OwS.back {a : Addr} (L : Lv K F ρ σ B H) (eB : Ex B B') (k : ∀ a, OwS K B H ρ σ a → B' a = none ∧ ∀ o, H a = some o → H' a = some o) (h : OwS K B' H' ρ σ a) : OwS K B H ρ σ a := by
  obtain ⟨i, s, v, S, e, q, f, m⟩ := h
  obtain ⟨v', S', q', f', g⟩ := L.own0 i s e f.owned
  rw [q] at q'; injection q' with q'; injection q' with q'; subst q'
  have f2 : Ft K B' H' v s S' := f'.keep eB (fun b hb => (k b ⟨i, s, v, S', e, q, f', hb⟩).1) (fun b hb => (k b ⟨i, s, v, S', e, q, f', hb⟩).2)
  rw [f.det f2] at m
  exact ⟨i, s, v, S', e, q, f', m⟩
theorem Lv.write (L : Lv K F ρ σ B H) {i : Nat} {s t : Slot} {a : Addr} {o : HO} (e : ρ[i]? = some s) (ho : flat s = true) (q : σ[i]? = some (some (V.ref a))) (ht : (∃ d, s = .ow d ∧ ∃ d', t = .ow d') ∨ ∃ d, s = .io d ∧ ∃ d', t = .io d') (w : Ow K B (upd H a o) a t.dat) : Lv K F (ρ.set i t) σ B (upd H a o) := by
  obtain ⟨v, S, q', f, g, no, L1⟩ := L.take e (flat_owned ho)
  rw [q] at q'; injection q' with q'; injection q' with q'; subst q'
  obtain ⟨w0, rfl⟩ := f.one ho
  have na := no a (by simp)
  have L2 := L1.hidW0 (o := o) w0.hid (g a (by simp)) na
  have ft : flat t = true := by rcases ht with ⟨_, _, _, z⟩ | ⟨_, _, _, z⟩ <;> rw [z] <;> rfl
  have L3 := L2.own (i := i) (t := t) q (.mk w ft) (by simpa using g a (by simp)) (fun b hb h => by
    rw [List.set_set] at h
    rw [List.mem_singleton.mp hb] at h
    exact na (h.chg L1 na)) (fun d z => by
      rcases ht with ⟨_, _, _, y⟩ | ⟨d0, y, _, _⟩
      · rw [y] at z; cases z
      · obtain ⟨b, p1, p2⟩ := L.io i d0 (by rw [e, y])
        rw [q] at p2
        obtain rfl : a = b := by injection p2 with z; injection z with z; injection z
        exact ⟨a, rfl, p1⟩)
  rw [List.set_set] at L3
  exact L3
theorem Lv.nest (L : Lv K F ρ σ B H) : Lv K ⟨B, H, OwS K B H ρ σ, F.P⟩ ρ σ B H :=
  ⟨L.ex, fun _ _ h _ => h, fun _ h => h, Ex.refl _, fun _ h _ _ => h, L.fz, fun i s e w => by
    obtain ⟨v, S, e1, f, _⟩ := L.own0 i s e w
    exact ⟨v, S, e1, f, fun a m => .inl ⟨i, s, v, S, e, e1, f, m⟩⟩, L.io, L.ne0, L.len⟩
theorem Lv.back (L : Lv K F ρ σ B H) {ρ' : Env} {σ' : St} (M : Lv K ⟨B, H, OwS K B H ρ σ, F.P⟩ ρ' σ' B' H') : Lv K F ρ' σ' B' H' := by
  have own : ∀ a, OwS K B H ρ σ a → F.A a ∨ F.H0 a = none := fun a h => L.ofOw h
  refine ⟨M.ex, fun a o e n => ?_, fun a e => M.there a (L.there a e), L.exB.trans M.exB, fun a e n k => ?_, M.fz, fun i s e w => ?_, M.io, M.ne0, M.len⟩
  · refine M.kept a o (L.kept a o e n) fun z => ?_
    rcases own a z with q | q
    · exact n q
    · rw [q] at e; cases e
  · have h1 := L.hid a e n k
    refine M.hid a h1 (n.to fun o q => L.kept a o q k) fun z => ?_
    · rcases own a z with q | q
      · exact k q
      · exact n.ne q
  · obtain ⟨v, S, e1, f, g⟩ := M.own0 i s e w
    refine ⟨v, S, e1, f, fun a m => ?_⟩
    rcases g a m with g | g
    · exact own a g
    · by_cases k : F.A a
      · exact .inl k
      · refine .inr ?_
        cases q : F.H0 a with
        | none => rfl
        | some u => have z := L.kept a u q k; rw [show H a = none from g] at z; cases z
end
end Dt
namespace Dt
open PySem PySem.Spec PyProof.Rows L2
inductive Rs (α : Type) where
  | ok (a : α) (ρ : Env)
  | rz (c : Str) (ρ : Env)
  | fail
abbrev M (α : Type) : Type := Env → Rs α
def M.pure {α : Type} (a : α) : M α := fun ρ => .ok a ρ
def M.bind {α β : Type} (f : M α) (g : α → M β) : M β := fun ρ => match f ρ with
  | .ok a ρ' => g a ρ'
  | .rz c ρ' => .rz c ρ'
  | .fail => .fail
def M.fail {α : Type} : M α := fun _ => .fail
def M.opt {α : Type} (o : Option α) : M α := fun ρ => match o with
  | some a => .ok a ρ
  | none => .fail
def M.raise {α : Type} (c : Str) : M α := fun ρ => .rz c ρ
inductive Fl where
  | nx
  | bk
  | ct
  | rt (d : D) (o : Ob)
def cv (X : Cx) (c : Str) : Value := (X.mg c).getD .none
structure We (X : Cx) (e : Expr) (σ : St) (H : Hp) (Q : VK) : Prop where
  run : ∀ (pins : List (Addr × Obj)) (s : Shared), Inv X pins σ H s → wpAny (model X.prog X.w) X.A (eval e X.env) (EP X pins σ Q) X.xe s
def we (X : Cx) (e : Expr) : TE := We X e
structure Wt (X : Cx) (e : Expr) (σ : St) (H : Hp) (Q : Bool → Hp → Prop) : Prop where
  run : ∀ (pins : List (Addr × Obj)) (s : Shared), Inv X pins σ H s → wpAny (model X.prog X.w) X.A (isTrue e X.env (eval e X.env)) (TP X pins σ Q) X.xe s
def wt (X : Cx) (e : Expr) : TT := Wt X e
structure Wa (X : Cx) (es : List Expr) (σ : St) (H : Hp) (Q : List V → Hp → Prop) : Prop where
  run : ∀ (pos : Pos) (pins : List (Addr × Obj)) (s : Shared), Inv X pins σ H s → wpAny (model X.prog X.w) X.A (spliced (backTo pos (starEach es X.env))) (AP X pins σ Q) X.xe s
def wa (X : Cx) (es : List Expr) : TA := Wa X es
structure Ws (X : Cx) (st : Stmt) (D : Ends) (σ : St) (H : Hp) : Prop where
  run : ∀ (pins : List (Addr × Obj)) (s : Shared), Inv X pins σ H s → wpAny (model X.prog X.w) X.A (exec st X.env) (SP X pins D) X.xe s
def ws (X : Cx) (st : Stmt) : TS := Ws X st
structure Wss (X : Cx) (st : List Stmt) (D : Ends) (σ : St) (H : Hp) : Prop where
  run : ∀ (pins : List (Addr × Obj)) (s : Shared), Inv X pins σ H s → wpAny (model X.prog X.w) X.A (execs st X.env) (SP X pins D) X.xe s
def wss (X : Cx) (st : List Stmt) : TS := Wss X st
section
variable {X : Cx} {e : Expr} {es : List Expr} {st : Stmt} {sts : List Stmt} {σ : St} {H : Hp}
theorem pe_we : PE X e (we X e) := ⟨fun pins s _ _ _ I h => We.run h pins s I⟩
theorem pt_wt : PT X e (wt X e) := ⟨fun pins s _ _ _ I h => Wt.run h pins s I⟩
theorem pa_wa : PA X es (wa X es) := ⟨fun pos pins s _ _ _ I h => Wa.run h pos pins s I⟩
theorem ps_ws : PS X st (ws X st) := ⟨fun pins s _ _ _ I h => Ws.run h pins s I⟩
theorem pss_wss : PSs X sts (wss X sts) := ⟨fun pins s _ _ _ I h => Wss.run h pins s I⟩
theorem PE.we {t : TE} {Q : VK} (h : PE X e t) (q : t σ H Q) : we X e σ H Q := We.mk fun pins s I => h.run pins s σ H Q I q
theorem PT.wt {t : TT} {Q : Bool → Hp → Prop} (h : PT X e t) (q : t σ H Q) : wt X e σ H Q := Wt.mk fun pins s I => h.run pins s σ H Q I q
theorem PA.wa {t : TA} {Q : List V → Hp → Prop} (h : PA X es t) (q : t σ H Q) : wa X es σ H Q := Wa.mk fun pos pins s I => h.run pos pins s σ H Q I q
theorem PS.ws {t : TS} {N : Ends} (h : PS X st t) (q : t N σ H) : ws X st N σ H := Ws.mk fun pins s I => h.run pins s σ H N I q
theorem PSs.wss {t : TS} {N : Ends} (h : PSs X sts t) (q : t N σ H) : wss X sts N σ H := Wss.mk fun pins s I => h.run pins s σ H N I q
end
def Post {α : Type} (X : Cx) (W : WX) (F : Fr) (σ : St) (B : Hp) (r : Rs α) (G : α → Env → Hp → Hp → Prop) : Prop :=
  match r with
  | .ok a ρ' => ∀ B' H', Ex B B' → Lv X.K F ρ' σ B' H' → G a ρ' B' H'
  | .rz c ρ' => ∀ B' H', Ex B B' → Lv X.K F ρ' σ B' H' → W (cv X c) none σ H'
  | .fail => False
section
variable {X : Cx} {W : WX} {F : Fr} {σ : St} {B B1 : Hp} {α β : Type} {ρ : Env}
theorem Post.weak {r : Rs α} {G : α → Env → Hp → Hp → Prop} (h : Post X W F σ B r G) (e : Ex B B1) : Post X W F σ B1 r G := by
  cases r with
  | ok a ρ' => exact fun B' H' e' L => h B' H' (e.trans e') L
  | rz c ρ' => exact fun B' H' e' L => h B' H' (e.trans e') L
  | fail => exact h
theorem Post.imp {r : Rs α} {G G' : α → Env → Hp → Hp → Prop} (h : Post X W F σ B r G) (k : ∀ a ρ' B' H', Ex B B' → Lv X.K F ρ' σ B' H' → G a ρ' B' H' → G' a ρ' B' H') : Post X W F σ B r G' := by
  cases r with
  | ok a ρ' => exact fun B' H' e L => k a ρ' B' H' e L (h B' H' e L)
  | rz c ρ' => exact h
  | fail => exact h
theorem Post.bind {f : M α} {g : α → M β} {G : β → Env → Hp → Hp → Prop} (h : Post X W F σ B (M.bind f g ρ) G) : Post X W F σ B (f ρ) (fun a ρ1 B1 _ => Post X W F σ B1 (g a ρ1) G) := by
  unfold M.bind at h
  cases q : f ρ with
  | ok a ρ' => rw [q] at h; exact fun B' H' e L => Post.weak h e
  | rz c ρ' => rw [q] at h; exact h
  | fail => rw [q] at h; exact h
theorem Post.opt {o : Option α} {G : α → Env → Hp → Hp → Prop} (h : Post X W F σ B (M.opt o ρ) G) : ∃ a, o = some a ∧ ∀ B' H', Ex B B' → Lv X.K F ρ σ B' H' → G a ρ B' H' := by
  cases o with
  | none => exact h.elim
  | some a => exact ⟨a, rfl, h⟩
end
def EV (X : Cx) (W : WX) (e : Expr) (f : M D) : Prop := ∀ (F : Fr) (ρ : Env) (σ : St) (B H : Hp) (Q : VK), Lv X.K F ρ σ B H →
  Post X W F σ B (f ρ) (fun d _ B' H' => ∀ v, Fz X.K B' v d → Q v H') → we X e σ H Q
def ET (X : Cx) (W : WX) (e : Expr) (f : M Bool) : Prop := ∀ (F : Fr) (ρ : Env) (σ : St) (B H : Hp) (Q : Bool → Hp → Prop), Lv X.K F ρ σ B H →
  Post X W F σ B (f ρ) (fun b _ _ H' => Q b H') → wt X e σ H Q
def EA (X : Cx) (W : WX) (es : List Expr) (f : M (List D)) : Prop := ∀ (F : Fr) (ρ : Env) (σ : St) (B H : Hp) (Q : List V → Hp → Prop), Lv X.K F ρ σ B H →
  Post X W F σ B (f ρ) (fun ds _ B' H' => ∀ vs, Fzs X.K B' vs ds → Q vs H') → wa X es σ H Q
def VO (K : PySem.W.Frag) (F : Fr) (ρ : Env) (σ : St) (B H : Hp) (v : V) (d : D) : Ob → Prop
  | .tt => ∃ a, v = .ref a ∧ Ow K B H a d ∧ (F.A a ∨ F.H0 a = none) ∧ ¬ OwS K B H ρ σ a
  | .ff => Fz K B v d
  | .dp m => ∃ S, Tr K B H m v d S ∧ S.Nodup ∧ ∀ a ∈ S, (F.A a ∨ F.H0 a = none) ∧ ¬ OwS K B H ρ σ a
  | .al => ∃ (j : Nat) (a : Addr), F.P[j]? = some (some a) ∧ v = .ref a
def EO (X : Cx) (W : WX) (e : Expr) (f : M (D × Ob)) : Prop := ∀ (F : Fr) (ρ : Env) (σ : St) (B H : Hp) (Q : VK), Lv X.K F ρ σ B H →
  Post X W F σ B (f ρ) (fun p ρ' B' H' => ∀ v, VO X.K F ρ' σ B' H' v p.1 p.2 → Q v H') → we X e σ H Q
def PostS (X : Cx) (W : WX) (F : Fr) (B : Hp) (r : Rs Fl) (N : Ends) : Prop :=
  match r with
  | .ok .nx ρ' => ∀ σ' B' H', Ex B B' → Lv X.K F ρ' σ' B' H' → N.nx σ' H'
  | .ok .bk ρ' => ∀ σ' B' H', Ex B B' → Lv X.K F ρ' σ' B' H' → N.bk σ' H'
  | .ok .ct ρ' => ∀ σ' B' H', Ex B B' → Lv X.K F ρ' σ' B' H' → N.ct σ' H'
  | .ok (.rt d o) ρ' => ∀ v σ' B' H', Ex B B' → Lv X.K F ρ' σ' B' H' → VO X.K F ρ' σ' B' H' v d o → N.rt v H'
  | .rz c ρ' => ∀ σ' B' H', Ex B B' → Lv X.K F ρ' σ' B' H' → W (cv X c) none σ' H'
  | .fail => False
def SV (X : Cx) (W : WX) (st : Stmt) (f : M Fl) : Prop := ∀ (F : Fr) (ρ : Env) (σ : St) (B H : Hp) (N : Ends), Lv X.K F ρ σ B H → PostS X W F B (f ρ) N → ws X st N σ H
def SVs (X : Cx) (W : WX) (sts : List Stmt) (f : M Fl) : Prop := ∀ (F : Fr) (ρ : Env) (σ : St) (B H : Hp) (N : Ends), Lv X.K F ρ σ B H → PostS X W F B (f ρ) N → wss X sts N σ H
theorem PostS.weak {X : Cx} {W : WX} {F : Fr} {B B1 : Hp} {r : Rs Fl} {N : Ends} (h : PostS X W F B r N) (e : Ex B B1) : PostS X W F B1 r N := by
  cases r with
  | ok a ρ' =>
    cases a with
    | nx => exact fun σ' B' H' e' L => h σ' B' H' (e.trans e') L
    | bk => exact fun σ' B' H' e' L => h σ' B' H' (e.trans e') L
    | ct => exact fun σ' B' H' e' L => h σ' B' H' (e.trans e') L
    | rt d o => exact fun v σ' B' H' e' L => h v σ' B' H' (e.trans e') L
  | rz c ρ' => exact fun σ' B' H' e' L => h σ' B' H' (e.trans e') L
  | fail => exact h
theorem PostS.bind {X : Cx} {W : WX} {F : Fr} {B : Hp} {σ : St} {α : Type} {ρ : Env} {f : M α} {g : α → M Fl} {N : Ends} (h : PostS X W F B (M.bind f g ρ) N) : Post X W F σ B (f ρ) (fun a ρ1 B1 _ => PostS X W F B1 (g a ρ1) N) := by
  unfold M.bind at h
  cases q : f ρ with
  | ok a ρ' => rw [q] at h; exact fun B' H' e L => PostS.weak h e
  | rz c ρ' => rw [q] at h; exact fun B' H' e L => h σ B' H' e L
  | fail => rw [q] at h; exact h
def Grow (K : PySem.W.Frag) (B H : Hp) (d : D) (Q : VK) : Prop := (∀ v, Fz K B v d → Q v H) ∧ ∀ p o v, H p = none → Fz K (upd B p o) v d → Q v (upd H p o)
theorem Lv.grow {K : PySem.W.Frag} {F : Fr} {ρ : Env} {σ : St} {B H : Hp} {d : D} {Q : VK} (L : Lv K F ρ σ B H) (h : ∀ B' H', Ex B B' → Lv K F ρ σ B' H' → ∀ v, Fz K B' v d → Q v H') : Grow K B H d Q :=
  ⟨fun v f => h B H (Ex.refl _) L v f, fun p o v n f => h _ _ (Ex.new (L.ex.nn n)) (L.alloc n) v f⟩
section
variable {X : Cx} {W : WX} {e a b c : Expr} {pos : Pos}
def mVar (i : Nat) : M D := fun ρ => match ρ[i]? with
  | some (.fz d) => .ok d ρ
  | some (.ow d) => .ok d (ρ.set i (.fz d))
  | some (.dp _ d) => .ok d (ρ.set i (.fz d))
  | _ => .fail
theorem ev_var (i : Nat) {x : Str} (hN : X.N[i]? = some x := by rfl) (hv : Vis X.env.scope x := by first | exact Or.inl rfl | exact Or.inr (Or.inl rfl) | exact Or.inr (Or.inr rfl)) (hd : (x == ("__debug__" : Str)) = false := by decide)
    (hcd : (x == ("__classdict__" : Str)) = false := by decide) : EV X W (.Name x pos) (mVar i) := by
  intro F ρ σ B H Q L P
  refine PE.we (pe_var hN hv hd hcd) ?_
  unfold mVar at P
  split at P
  · rename_i d h
    obtain ⟨v, e1, f⟩ := L.fz i d h
    exact ⟨v, e1, P B H (Ex.refl _) L v f⟩
  · rename_i d h
    obtain ⟨B', v, e1, e2, f, L'⟩ := L.frz h
    exact ⟨v, e2, P B' H e1 L' v f⟩
  · rename_i m d h
    obtain ⟨B', v, e1, e2, f, L'⟩ := L.frz0 h rfl
    exact ⟨v, e2, P B' H e1 L' v f⟩
  · exact P.elim
theorem ev_c {d : D} {v : V} (h : PE X e (tC v)) (hf : ∀ B, Fz X.K B v d) : EV X W e (M.pure d) := by
  intro F ρ σ B H Q L P
  exact PE.we h (P B H (Ex.refl _) L v (hf B))
theorem ev_int {i : Int} {j : Nat} : EV X W (.Constant (.int i) j pos) (M.pure (.int i)) := ev_c pe_int fun _ => .int i
theorem ev_str {x : Str} {j : Nat} : EV X W (.Constant (.str x) j pos) (M.pure (.str x)) := ev_c pe_str fun _ => .str x
theorem ev_bl {k : Bool} {j : Nat} : EV X W (.Constant (.bool k) j pos) (M.pure (.bl k)) := ev_c pe_bl fun _ => .bl k
theorem ev_glob {x : Str} {v : V} {u : Value} {d : D} (hg : Gl X x) (hm : X.mg x = some u) (r : RelV v u) (hf : ∀ B, Fz X.K B v d) (hd : (x == ("__debug__" : Str)) = false := by decide) : EV X W (.Name x pos) (M.pure d) := ev_c (pe_glob hg hm r hd) hf
def mBin (g : D → D → Option D) (f1 f2 : M D) : M D := M.bind f1 fun x => M.bind f2 fun y => M.opt (g x y)
def OpD (K : PySem.W.Frag) (r : R2) (g : D → D → Option D) : Prop := ∀ (x y : V) (dx dy d : D) (B H : Hp) (Q : VK), Ex B H → Fz K B x dx → Fz K B y dy → g dx dy = some d → Grow K B H d Q → r x y H Q
theorem ev_two {r : R2} {g : D → D → Option D} {f1 f2 : M D} (h : PE X e (tOp r (we X a) (we X b))) (hr : OpD X.K r g) (ha : EV X W a f1) (hb : EV X W b f2) : EV X W e (mBin g f1 f2) := by
  intro F ρ σ B H Q L P
  refine PE.we h ?_
  refine ha F ρ σ B H _ L ((Post.bind P).imp fun dx ρ1 B1 H1 e1 L1 P1 x fx => ?_)
  refine hb F ρ1 σ B1 H1 _ L1 ((Post.bind P1).imp fun dy ρ2 B2 H2 e2 L2 P2 y fy => ?_)
  obtain ⟨d, hd, k⟩ := P2.opt
  exact hr x y dx dy d B2 H2 Q L2.ex (fx.mono e2) fy hd (L2.grow k)
theorem ev_op {op : Operator} {r : R2} {g : D → D → Option D} {f1 f2 : M D} (ho : OpR X (binaryOp op) r) (hr : OpD X.K r g) (ha : EV X W a f1) (hb : EV X W b f2) : EV X W (.BinOp a op b pos) (mBin g f1 f2) :=
  ev_two (pe_op ho pe_we pe_we) hr ha hb
theorem ev_cmp {op : CmpOp} {r : R2} {g : D → D → Option D} {f1 f2 : M D} (ho : OpR X (compareOp op) r) (hr : OpD X.K r g) (ha : EV X W a f1) (hb : EV X W b f2) (hm : behindInMarks op b = false := by first | exact nomark _ | rfl) : EV X W (.Compare a [op] [b] pos) (mBin g f1 f2) :=
  ev_two (pe_cmpR ho pe_we pe_we hm) hr ha hb
theorem ev_ix {r : R2} {g : D → D → Option D} {f1 f2 : M D} (ho : IxR X r) (hr : OpD X.K r g) (ha : EV X W a f1) (hb : EV X W b f2) (hs : PlainIx b := by exact fun _ _ => rfl) : EV X W (.Subscript a b pos) (mBin g f1 f2) :=
  ev_two (pe_ix ho pe_we pe_we hs) hr ha hb
def mUn (g : D → Option D) (f1 : M D) : M D := M.bind f1 fun x => M.opt (g x)
def UnD (K : PySem.W.Frag) (r : V → Hp → VK → Prop) (g : D → Option D) : Prop := ∀ (x : V) (dx d : D) (B H : Hp) (Q : VK), Ex B H → Fz K B x dx → g dx = some d → Grow K B H d Q → r x H Q
theorem ev_un {op : UnaryOp} {r : V → Hp → VK → Prop} {g : D → Option D} {f1 : M D} (ho : UnR X (unaryOp op) r) (hr : UnD X.K r g) (ha : EV X W a f1) : EV X W (.UnaryOp op a pos) (mUn g f1) := by
  intro F ρ σ B H Q L P
  refine PE.we (pe_un ho pe_we) ?_
  refine ha F ρ σ B H _ L ((Post.bind P).imp fun dx ρ1 B1 H1 e1 L1 P1 x fx => ?_)
  obtain ⟨d, hd, k⟩ := P1.opt
  exact hr x dx d B1 H1 Q L1.ex fx hd (L1.grow k)
def mNil : M (List D) := M.pure []
def mCons (f : M D) (g : M (List D)) : M (List D) := M.bind f fun x => M.bind g fun xs => M.pure (x :: xs)
theorem ea_nil : EA X W [] mNil := fun F ρ σ B H Q L P => PA.wa pa_nil (P B H (Ex.refl _) L [] .nil)
def unStar : Expr → Bool
  | .Starred _ _ => false
  | _ => true
theorem star_un {e : Expr} {es : List Expr} {env : PySem.Env} (h : unStar e = true) : starEach (e :: es) env = (false, eval e env) :: starEach es env := by
  cases e <;> first | rfl | cases h
theorem ea_cons {es : List Expr} {f : M D} {g : M (List D)} (ha : EV X W e f) (hr : EA X W es g) (hs : starEach (e :: es) X.env = (false, eval e X.env) :: starEach es X.env := by exact star_un rfl) : EA X W (e :: es) (mCons f g) := by
  intro F ρ σ B H Q L P
  refine PA.wa (pa_cons pe_we pa_wa hs) ?_
  refine ha F ρ σ B H _ L ((Post.bind P).imp fun dx ρ1 B1 H1 e1 L1 P1 x fx => ?_)
  refine hr F ρ1 σ B1 H1 _ L1 ((Post.bind P1).imp fun ds ρ2 B2 H2 e2 L2 P2 xs fs => ?_)
  exact P2 B2 H2 (Ex.refl _) L2 _ (.cons (fx.mono e2) fs)
def mCall (g : List D → Option D) (f : M (List D)) : M D := M.bind f fun xs => M.opt (g xs)
def CallD (K : PySem.W.Frag) (r : List V → Hp → VK → Prop) (g : List D → Option D) : Prop := ∀ (xs : List V) (ds : List D) (d : D) (B H : Hp) (Q : VK), Ex B H → Fzs K B xs ds → g ds = some d → Grow K B H d Q → r xs H Q
theorem ev_callG {es : List Expr} {r : List V → Hp → VK → Prop} {g : List D → Option D} {f : M (List D)} (h : PE X e (tCB r (wa X es))) (hr : CallD X.K r g) (ha : EA X W es f) : EV X W e (mCall g f) := by
  intro F ρ σ B H Q L P
  refine PE.we h ?_
  refine ha F ρ σ B H _ L ((Post.bind P).imp fun ds ρ1 B1 H1 e1 L1 P1 xs fs => ?_)
  obtain ⟨d, hd, k⟩ := P1.opt
  exact hr xs ds d B1 H1 Q L1.ex fs hd (L1.grow k)
theorem ev_callB {x : Str} {id : String} {es : List Expr} {p : Pos} {r : List V → Hp → VK → Prop} {g : List D → Option D} {f : M (List D)} (hc : CallR X (.builtin id) r) (hr : CallD X.K r g) (hg : Gl X x) (hm : X.mg x = none) (hv : bootBuiltins x = some (.builtin id))
    (ha : EA X W (e :: es) f) (hn : x ≠ "__name__" := by decide) (hdb : (x == ("__debug__" : Str)) = false := by decide)
    (he : starEach (e :: es) X.env = (false, eval e X.env) :: starEach es X.env := by exact star_un rfl) (hpl : (backTo pos (starEach es X.env)).any (·.1) = false := by rfl) : EV X W (.Call (.Name x p) (e :: es) [] pos) (mCall g f) :=
  ev_callG (pe_callB hc hg hm hv pa_wa hn hdb he hpl) hr ha
theorem ev_callTy {x : Str} {T : String} {es : List Expr} {p : Pos} {r : List V → Hp → VK → Prop} {g : List D → Option D} {f : M (List D)} (hc : CallR X (.type T) r) (hr : CallD X.K r g) (hg : Gl X x) (hm : X.mg x = none) (hv : bootBuiltins x = some (.type T))
    (ha : EA X W (e :: es) f) (hn : x ≠ "__name__" := by decide) (hdb : (x == ("__debug__" : Str)) = false := by decide)
    (he : starEach (e :: es) X.env = (false, eval e X.env) :: starEach es X.env := by exact star_un rfl) (hpl : (backTo pos (starEach es X.env)).any (·.1) = false := by rfl) : EV X W (.Call (.Name x p) (e :: es) [] pos) (mCall g f) :=
  ev_callG (pe_callTy hc hg hm hv pa_wa hn hdb he hpl) hr ha
def mTup (f : M (List D)) : M D := M.bind f fun xs => M.opt (if xs.length ≤ 10000 then some (.tup xs) else none)
theorem len_line {n : Nat} (h : n ≤ 100000) : n ≤ sizeLine := Nat.le_trans h (by decide)
theorem ev_tup {es : List Expr} {k : Nat} {f : M (List D)} (ha : EA X W es f) : EV X W (.Tuple es k pos) (mTup f) := by
  intro F ρ σ B H Q L P
  refine PE.we (pe_tup pa_wa) ?_
  refine ha F ρ σ B H _ L ((Post.bind P).imp fun ds ρ1 B1 H1 e1 L1 P1 xs fs => ?_)
  obtain ⟨d, hd, k⟩ := P1.opt
  split at hd
  · injection hd with hd; subst hd
    refine ⟨len_line (by rw [fs.len]; omega), fun p hp => (L1.grow k).2 p _ _ hp (.tup (.inl (.inl upd_same)) (fs.mono (Ex.new (L1.ex.nn hp))))⟩
  · cases hd
def Ob.ok : Ob → Bool
  | .al => false
  | _ => true
def mFz (f : M (D × Ob)) : M D := M.bind f fun p => M.opt (if p.2.ok = true then some p.1 else none)
theorem Lv.vfz {K : PySem.W.Frag} {F : Fr} {ρ : Env} {σ : St} {B H : Hp} {v : V} {d : D} {o : Ob} (L : Lv K F ρ σ B H) (h : VO K F ρ σ B H v d o) (ok : o.ok = true) : ∃ B', Ex B B' ∧ Lv K F ρ σ B' H ∧ Fz K B' v d := by
  cases o with
  | ff => exact ⟨B, Ex.refl _, L, h⟩
  | tt =>
    obtain ⟨a, rfl, w, n, no⟩ := h
    obtain ⟨o, h1, h2⟩ := w.fz
    exact ⟨_, Ex.new w.hid, L.freeze h1 w.hid n no, h2⟩
  | dp m =>
    obtain ⟨S, t, nd, g⟩ := h
    exact ⟨_, frzB_ex L.ex, L.freezeS (fun a m => (g a m).1) (fun a m => (g a m).2), t.fz L.ex fun a m => m⟩
  | al => cases ok
theorem ev_of {f : M (D × Ob)} (h : EO X W e f) : EV X W e (mFz f) := by
  intro F ρ σ B H Q L P
  refine h F ρ σ B H Q L ((Post.bind P).imp fun p ρ1 B1 H1 e1 L1 P1 v w => ?_)
  obtain ⟨d, hd, k⟩ := P1.opt
  split at hd
  · rename_i ok
    injection hd with hd; subst hd
    obtain ⟨B2, e2, L2, f2⟩ := L1.vfz w ok
    exact k B2 H1 e2 L2 v f2
  · cases hd
def mOf (f : M D) : M (D × Ob) := M.bind f fun d => M.pure (d, .ff)
theorem eo_of {f : M D} (h : EV X W e f) : EO X W e (mOf f) := by
  intro F ρ σ B H Q L P
  exact h F ρ σ B H Q L ((Post.bind P).imp fun d ρ1 B1 H1 e1 L1 P1 v w => P1 B1 H1 (Ex.refl _) L1 v w)
def mMove (i : Nat) : M (D × Ob) := fun ρ => match ρ[i]? with
  | some (.fz d) => .ok (d, .ff) ρ
  | some (.ow d) => .ok (d, .tt) (ρ.set i .un)
  | some (.dp m d) => .ok (d, .dp m) (ρ.set i .un)
  | _ => .fail
def mLst (f : M (List D)) : M (D × Ob) := M.bind f fun xs => M.opt (if xs.length ≤ 10000 then some (.lst xs, .tt) else none)
theorem Lv.newL {K : PySem.W.Frag} {F : Fr} {ρ : Env} {σ : St} {B H : Hp} {p : Addr} {xs : List V} {ds : List D} (L : Lv K F ρ σ B H) (hp : H p = none) (fs : Fzs K B xs ds) : Lv K F ρ σ B (upd H p (.lst xs)) ∧ VO K F ρ σ B (upd H p (.lst xs)) (.ref p) (.lst ds) .tt :=
  ⟨L.allocO hp, p, rfl, ⟨L.ex.nn hp, xs, upd_same, fs⟩, .inr (L.free hp), fun h => (L.hidOw (h.chg L fun z => (L.hidOw z).2.ne hp)).2.ne hp⟩
theorem eo_lst {es : List Expr} {f : M (List D)} (ha : EA X W es f) : EO X W (.List es pos) (mLst f) := by
  intro F ρ σ B H Q L P
  refine PE.we (pe_lst pa_wa) ?_
  refine ha F ρ σ B H _ L ((Post.bind P).imp fun ds ρ1 B1 H1 e1 L1 P1 xs fs => ?_)
  obtain ⟨d, hd, k⟩ := P1.opt
  split at hd
  · injection hd with hd; subst hd
    refine ⟨len_line (by rw [fs.len]; omega), fun p hp => ?_⟩
    obtain ⟨L2, v2⟩ := L1.newL hp fs
    exact k B1 _ (Ex.refl _) L2 _ v2
  · cases hd
theorem eo_move (i : Nat) {x : Str} (hN : X.N[i]? = some x := by rfl) (hv : Vis X.env.scope x := by first | exact Or.inl rfl | exact Or.inr (Or.inl rfl) | exact Or.inr (Or.inr rfl)) (hd : (x == ("__debug__" : Str)) = false := by decide)
    (hcd : (x == ("__classdict__" : Str)) = false := by decide) : EO X W (.Name x pos) (mMove i) := by
  intro F ρ σ B H Q L P
  refine PE.we (pe_var hN hv hd hcd) ?_
  unfold mMove at P
  split at P
  · rename_i d h
    obtain ⟨v, e1, f⟩ := L.fz i d h
    exact ⟨v, e1, P B H (Ex.refl _) L v f⟩
  · rename_i d h
    obtain ⟨v, S, e1, f, g, no, L1⟩ := L.take h rfl
    obtain ⟨a, rfl, w, rfl⟩ := f
    exact ⟨_, e1, P B H (Ex.refl _) L1 _ ⟨a, rfl, w, g a (by simp), no a (by simp)⟩⟩
  · rename_i m d h
    obtain ⟨v, S, e1, f, g, no, L1⟩ := L.take h rfl
    exact ⟨_, e1, P B H (Ex.refl _) L1 _ ⟨S, f.1, f.2, fun a m => ⟨g a m, no a m⟩⟩⟩
  · exact P.elim
end
end Dt
namespace Dt
open PySem PySem.Spec PyProof.Rows L2
section
variable {X : Cx} {W : WX} {e a b c : Expr} {pos : Pos}
def asBl : D → Option Bool
  | .bl k => some k
  | _ => none
theorem Fz.bl_inv {K : PySem.W.Frag} {B : Hp} {v : V} {d : D} {k : Bool} (h : Fz K B v d) (e : asBl d = some k) : v = .bl k := by
  cases h with
  | bl b => injection e with e; rw [e]
  | _ => cases e
def mTest (f : M D) : M Bool := M.bind f fun d => M.opt (asBl d)
theorem et_val {f : M D} (he : EV X W e f) (hw : ∀ whole, isTrue e X.env whole = (do let v ← whole; standAt e.pos; holding [v] (truthy v)) := by intro _; rfl) : ET X W e (mTest f) := by
  intro F ρ σ B H Q L P
  refine PT.wt (pt_val pe_we hw) ?_
  refine he F ρ σ B H _ L ((Post.bind P).imp fun d ρ1 B1 H1 e1 L1 P1 v fv => ?_)
  obtain ⟨k, hk, q⟩ := P1.opt
  exact ⟨k, fv.bl_inv hk, q B1 H1 (Ex.refl _) L1⟩
theorem et_cmp {op : CmpOp} {r : R2} {g : D → D → Option D} {f1 f2 : M D} (ho : OpR X (compareOp op) r) (hr : OpD X.K r g) (ha : EV X W a f1) (hb : EV X W b f2) (hm : behindInMarks op b = false := by first | exact nomark _ | rfl) : ET X W (.Compare a [op] [b] pos) (mTest (mBin g f1 f2)) := by
  intro F ρ σ B H Q L P
  refine PT.wt (pt_cmpR ho pe_we pe_we hm) ?_
  have P0 := Post.bind P
  refine ha F ρ σ B H _ L ((Post.bind P0).imp fun dx ρ1 B1 H1 e1 L1 P1 x fx => ?_)
  refine hb F ρ1 σ B1 H1 _ L1 ((Post.bind P1).imp fun dy ρ2 B2 H2 e2 L2 P2 y fy => ?_)
  obtain ⟨d, hd, k⟩ := P2.opt
  refine hr x y dx dy d B2 H2 _ L2.ex (fx.mono e2) fy hd (L2.grow fun B' H' e' L' v fv => ?_)
  obtain ⟨kk, hk, q⟩ := (k B' H' e' L').opt
  exact ⟨kk, fv.bl_inv hk, q B' H' (Ex.refl _) L'⟩
structure Ww (X : Cx) (e : Expr) (σ : St) (H : Hp) (Q : Bool → Hp → Prop) : Prop where
  run : ∀ (whole : Sem Value) (pins : List (Addr × Obj)) (s : Shared), Inv X pins σ H s → wpAny (model X.prog X.w) X.A (isTrue e X.env whole) (TP X pins σ Q) X.xe s
def ww (X : Cx) (e : Expr) : TT := Ww X e
theorem pw_ww : PW X e (ww X e) := ⟨fun whole pins s _ _ _ I h => Ww.run h whole pins s I⟩
theorem PW.ww {t : TT} {Q : Bool → Hp → Prop} {σ : St} {H : Hp} (h : PW X e t) (q : t σ H Q) : ww X e σ H Q := Ww.mk fun whole pins s I => h.run whole pins s σ H Q I q
def EW (X : Cx) (W : WX) (e : Expr) (f : M Bool) : Prop := ∀ (F : Fr) (ρ : Env) (σ : St) (B H : Hp) (Q : Bool → Hp → Prop), Lv X.K F ρ σ B H →
  Post X W F σ B (f ρ) (fun b _ _ H' => Q b H') → ww X e σ H Q
theorem et_w {f : M Bool} (h : EW X W e f) : ET X W e f := fun F ρ σ B H Q L P => PT.wt (PW.pt pw_ww) (h F ρ σ B H Q L P)
def mAnd (f g : M Bool) : M Bool := M.bind f fun k => match k with
  | true => g
  | false => M.pure false
def mOr (f g : M Bool) : M Bool := M.bind f fun k => match k with
  | true => M.pure true
  | false => g
def mNot (f : M Bool) : M Bool := M.bind f fun k => M.pure (!k)
theorem ew_and1 {f : M Bool} (ha : ET X W a f) : EW X W (.BoolOp .And [a] pos) f := fun F ρ σ B H Q L P => PW.ww (pw_and1 pt_wt) (ha F ρ σ B H Q L P)
theorem ew_or1 {f : M Bool} (ha : ET X W a f) : EW X W (.BoolOp .Or [a] pos) f := fun F ρ σ B H Q L P => PW.ww (pw_or1 pt_wt) (ha F ρ σ B H Q L P)
theorem ew_and {rest : List Expr} {f g : M Bool} (ha : ET X W a f) (hb : EW X W (.BoolOp .And (b :: rest) pos) g) : EW X W (.BoolOp .And (a :: b :: rest) pos) (mAnd f g) := by
  intro F ρ σ B H Q L P
  refine PW.ww (pw_and pt_wt pw_ww) ?_
  refine ha F ρ σ B H _ L ((Post.bind P).imp fun k ρ1 B1 H1 e1 L1 P1 => ?_)
  cases k with
  | true => rw [if_pos rfl]; exact hb F ρ1 σ B1 H1 Q L1 P1
  | false => rw [if_neg Bool.false_ne_true]; exact P1 B1 H1 (Ex.refl _) L1
theorem ew_or {rest : List Expr} {f g : M Bool} (ha : ET X W a f) (hb : EW X W (.BoolOp .Or (b :: rest) pos) g) : EW X W (.BoolOp .Or (a :: b :: rest) pos) (mOr f g) := by
  intro F ρ σ B H Q L P
  refine PW.ww (pw_or pt_wt pw_ww) ?_
  refine ha F ρ σ B H _ L ((Post.bind P).imp fun k ρ1 B1 H1 e1 L1 P1 => ?_)
  cases k with
  | true => rw [if_pos rfl]; exact P1 B1 H1 (Ex.refl _) L1
  | false => rw [if_neg Bool.false_ne_true]; exact hb F ρ1 σ B1 H1 Q L1 P1
theorem et_not {f : M Bool} (ha : ET X W a f) : ET X W (.UnaryOp .Not a pos) (mNot f) := by
  intro F ρ σ B H Q L P
  refine PT.wt (pt_not pt_wt) ?_
  exact ha F ρ σ B H _ L ((Post.bind P).imp fun k ρ1 B1 H1 e1 L1 P1 => P1 B1 H1 (Ex.refl _) L1)
def mAndV (f g : M D) : M D := M.bind f fun d => match d with
  | .bl true => g
  | .bl false => M.pure (.bl false)
  | _ => M.fail
def mOrV (f g : M D) : M D := M.bind f fun d => match d with
  | .bl true => M.pure (.bl true)
  | .bl false => g
  | _ => M.fail
def mNotV (f : M D) : M D := M.bind f fun d => match d with
  | .bl k => M.pure (.bl (!k))
  | _ => M.fail
theorem ev_one {op : BoolOp} {f : M D} (h : EV X W a f) : EV X W (.BoolOp op [a] pos) f := fun F ρ σ B H Q L P => PE.we (pe_one pe_we) (h F ρ σ B H Q L P)
theorem ev_and {rest : List Expr} {f g : M D} (ha : EV X W a f) (hb : EV X W (.BoolOp .And (b :: rest) pos) g) : EV X W (.BoolOp .And (a :: b :: rest) pos) (mAndV f g) := by
  intro F ρ σ B H Q L P
  refine PE.we (pe_and pe_we pe_we) ?_
  refine ha F ρ σ B H _ L ((Post.bind P).imp fun d ρ1 B1 H1 e1 L1 P1 v fv => ?_)
  split at P1
  · cases fv
    exact ⟨true, rfl, by rw [if_pos rfl]; exact hb F ρ1 σ B1 H1 Q L1 P1⟩
  · cases fv
    exact ⟨false, rfl, by rw [if_neg Bool.false_ne_true]; exact P1 B1 H1 (Ex.refl _) L1 _ (.bl false)⟩
  · exact P1.elim
theorem ev_or {rest : List Expr} {f g : M D} (ha : EV X W a f) (hb : EV X W (.BoolOp .Or (b :: rest) pos) g) : EV X W (.BoolOp .Or (a :: b :: rest) pos) (mOrV f g) := by
  intro F ρ σ B H Q L P
  refine PE.we (pe_or pe_we pe_we) ?_
  refine ha F ρ σ B H _ L ((Post.bind P).imp fun d ρ1 B1 H1 e1 L1 P1 v fv => ?_)
  split at P1
  · cases fv
    exact ⟨true, rfl, by rw [if_pos rfl]; exact P1 B1 H1 (Ex.refl _) L1 _ (.bl true)⟩
  · cases fv
    exact ⟨false, rfl, by rw [if_neg Bool.false_ne_true]; exact hb F ρ1 σ B1 H1 Q L1 P1⟩
  · exact P1.elim
theorem ev_not {f : M D} (ha : EV X W a f) : EV X W (.UnaryOp .Not a pos) (mNotV f) := by
  intro F ρ σ B H Q L P
  refine PE.we (pe_not pe_we) ?_
  refine ha F ρ σ B H _ L ((Post.bind P).imp fun d ρ1 B1 H1 e1 L1 P1 v fv => ?_)
  split at P1
  · rename_i k
    cases fv
    exact ⟨k, rfl, P1 B1 H1 (Ex.refl _) L1 _ (.bl _)⟩
  · exact P1.elim
def mIf {α : Type} (t : M Bool) (f g : M α) : M α := M.bind t fun k => match k with
  | true => f
  | false => g
def mChain (g g' : D → D → Option D) (f1 f2 f3 : M D) : M D := M.bind f1 fun x => M.bind f2 fun y => M.bind (M.opt (g x y)) fun z => match z with
  | .bl true => M.bind f3 fun w => M.opt (g' y w)
  | .bl false => M.pure (.bl false)
  | _ => M.fail
end
section
variable {X : Cx} {W : WX} {pos : Pos}
structure Wg (X : Cx) (tg : Expr) (v : V) (σ : St) (H : Hp) (Q : St → Hp → Prop) : Prop where
  run : ∀ (pins : List (Addr × Obj)) (s : Shared) (u : Value), Inv X pins σ H s → RelV v u → wpAny (model X.prog X.w) X.A (assign tg X.env u) (fun _ s' => ∃ σ' H', Inv X pins σ' H' s' ∧ Q σ' H') X.xe s
def wg (X : Cx) (tg : Expr) : TG := Wg X tg
theorem pg_wg {tg : Expr} : PG X tg (wg X tg) := ⟨fun pins s _ _ _ u _ I r h => Wg.run h pins s u I r⟩
theorem PG.wg {tg : Expr} {t : TG} {v : V} {σ : St} {H : Hp} {Q : St → Hp → Prop} (h : PG X tg t) (q : t v σ H Q) : wg X tg v σ H Q := Wg.mk fun pins s u I r => h.run pins s σ H v u Q I r q
structure Wgs (X : Cx) (ts : List Expr) (vs : List V) (σ : St) (H : Hp) (Q : St → Hp → Prop) : Prop where
  run : ∀ (pins : List (Addr × Obj)) (s : Shared) (us : List Value), Inv X pins σ H s → Vals vs us → wpAny (model X.prog X.w) X.A (assignInOrder ((assignEach ts X.env).map (·.2)) us) (fun _ s' => ∃ σ' H', Inv X pins σ' H' s' ∧ Q σ' H') X.xe s
def wgs (X : Cx) (ts : List Expr) : TGs := Wgs X ts
theorem pgs_wgs {ts : List Expr} : PGs X ts (wgs X ts) := ⟨fun pins s _ _ _ us _ I r h => Wgs.run h pins s us I r⟩
theorem PGs.wgs {ts : List Expr} {t : TGs} {vs : List V} {σ : St} {H : Hp} {Q : St → Hp → Prop} (h : PGs X ts t) (q : t vs σ H Q) : wgs X ts vs σ H Q := Wgs.mk fun pins s us I r => h.run pins s σ H vs us Q I r q
def Onl (is : List Nat) (σ σ' : St) : Prop := σ'.length = σ.length ∧ ∀ j, j ∉ is → σ'[j]? = σ[j]?
theorem Onl.refl (σ : St) : Onl [] σ σ := ⟨rfl, fun _ _ => rfl⟩
theorem Onl.trans {is js : List Nat} {σ σ1 σ2 : St} (a : Onl is σ σ1) (b : Onl js σ1 σ2) : Onl (is ++ js) σ σ2 :=
  ⟨b.1.trans a.1, fun j h => (b.2 j fun z => h (List.mem_append_right _ z)).trans (a.2 j fun z => h (List.mem_append_left _ z))⟩
theorem Onl.set (σ : St) (i : Nat) (v : Option V) : Onl [i] σ (σ.set i v) := ⟨List.length_set, fun j h => List.getElem?_set_ne (fun z => h (by simp [z]))⟩
def PostG (X : Cx) (F : Fr) (B : Hp) (σ : St) (is : List Nat) (r : Option Env) (Q : St → Hp → Prop) : Prop :=
  match r with
  | some ρ' => ∀ σ' B' H', Onl is σ σ' → Ex B B' → Lv X.K F ρ' σ' B' H' → Q σ' H'
  | none => False
def GV (X : Cx) (tg : Expr) (is : List Nat) (g : D → Env → Option Env) : Prop := ∀ (F : Fr) (ρ : Env) (σ : St) (B H : Hp) (v : V) (d : D) (Q : St → Hp → Prop), Lv X.K F ρ σ B H → Fz X.K B v d → PostG X F B σ is (g d ρ) Q → wg X tg v σ H Q
def GVs (X : Cx) (ts : List Expr) (is : List Nat) (g : List D → Env → Option Env) : Prop := ∀ (F : Fr) (ρ : Env) (σ : St) (B H : Hp) (vs : List V) (ds : List D) (Q : St → Hp → Prop), Lv X.K F ρ σ B H → Fzs X.K B vs ds → PostG X F B σ is (g ds ρ) Q → wgs X ts vs σ H Q
def gN (i : Nat) (d : D) (ρ : Env) : Option Env := some (ρ.set i (.fz d))
theorem gv_name {i : Nat} {x : Str} (hN : X.N.Nodup) (hi : X.N[i]? = some x := by rfl) (hx : Loc X.env.scope x := by first | exact Or.inl rfl | exact Or.inr rfl) (hf : X.fn x = true ∨ X.env.scope.names.lookup x = some .local := by first | exact .inl rfl | exact .inr rfl | assumption) : GV X (.Name x pos) [i] (gN i) := by
  intro F ρ σ B H v d Q L fv P
  refine PG.wg (pg_name hN hi hx hf) ?_
  exact P _ B H (Onl.set σ i _) (Ex.refl _) (L.store rfl fun d' z => by injection z with z; subst z; exact fv)
def gsN (ds : List D) (ρ : Env) : Option Env := match ds with
  | [] => some ρ
  | _ => none
def gsC (g : D → Env → Option Env) (gs : List D → Env → Option Env) (ds : List D) (ρ : Env) : Option Env := match ds with
  | d :: r => (g d ρ).bind (gs r)
  | [] => none
theorem gvs_nil : GVs X [] [] gsN := by
  intro F ρ σ B H vs ds Q L fs P
  refine PGs.wgs pgs_nil ?_
  cases fs with
  | nil => exact ⟨rfl, P σ B H (Onl.refl σ) (Ex.refl _) L⟩
  | cons h hs => exact P.elim
theorem gvs_cons {e : Expr} {es : List Expr} {is js : List Nat} {g : D → Env → Option Env} {gs : List D → Env → Option Env} (h1 : GV X e is g) (h2 : GVs X es js gs)
    (hs : (assignEach (e :: es) X.env).map (·.2) = assign e X.env :: (assignEach es X.env).map (·.2) := by rfl) : GVs X (e :: es) (is ++ js) (gsC g gs) := by
  intro F ρ σ B H vs ds Q L fs P
  refine PGs.wgs (pgs_cons pg_wg pgs_wgs hs) ?_
  cases fs with
  | nil => exact P.elim
  | @cons v vs d ds f fs =>
    refine ⟨v, vs, rfl, h1 F ρ σ B H v d _ L f ?_⟩
    have P' : PostG X F B σ (is ++ js) ((g d ρ).bind (gs ds)) Q := P
    cases q : g d ρ with
    | none => rw [q] at P'; exact P'.elim
    | some ρ1 =>
      rw [q] at P'
      intro σ1 B1 H1 o1 e1 L1
      refine h2 F ρ1 σ1 B1 H1 vs ds Q L1 (fs.mono e1) ?_
      have P2 : PostG X F B σ (is ++ js) (gs ds ρ1) Q := P'
      cases q2 : gs ds ρ1 with
      | none => rw [q2] at P2; exact P2.elim
      | some ρ2 => rw [q2] at P2; exact fun σ' B' H' o' e' L' => P2 σ' B' H' (o1.trans o') (e1.trans e') L'
def gT (n : Nat) (gs : List D → Env → Option Env) (d : D) (ρ : Env) : Option Env := match d with
  | .tup ds => if ds.length = n then gs ds ρ else none
  | _ => none
theorem gv_tup {es : List Expr} {k n : Nat} {is : List Nat} {gs : List D → Env → Option Env} (hc : X.calm = true) (h : GVs X es is gs) (hn : (assignEach es X.env).length = n := by rfl) (hst : (assignEach es X.env).findIdx? (·.1) = none := by rfl) : GV X (.Tuple es k pos) is (gT n gs) := by
  intro F ρ σ B H v d Q L fv P
  refine PG.wg (pg_tup hc pgs_wgs hn hst) ?_
  cases fv with
  | @tup a xs ds hs fs =>
    have P' : PostG X F B σ is (if ds.length = n then gs ds ρ else none) Q := P
    split at P'
    · rename_i hl
      exact ⟨a, xs, rfl, L.ex.st hs, by rw [fs.len]; exact hl, h F ρ σ B H xs ds Q L fs P'⟩
    · exact P'.elim
  | _ => exact P.elim
end
section
variable {X : Cx} {W : WX} {e : Expr} {pos : Pos} {st : Stmt} {rest : List Stmt}
def mSeq (f g : M Fl) : M Fl := M.bind f fun fl => match fl with
  | .nx => g
  | .bk => M.pure .bk
  | .ct => M.pure .ct
  | .rt d o => M.pure (.rt d o)
def mNx : M Fl := M.pure .nx
theorem svs_nil : SVs X W [] mNx := fun F ρ σ B H N L P => PSs.wss pss_nil (P σ B H (Ex.refl _) L)
theorem svs_cons {f g : M Fl} (h1 : SV X W st f) (h2 : SVs X W rest g) : SVs X W (st :: rest) (mSeq f g) := by
  intro F ρ σ B H N L P
  refine PSs.wss (pss_cons ps_ws pss_wss) ?_
  refine h1 F ρ σ B H _ L ?_
  have P' : PostS X W F B (M.bind f _ ρ) N := P
  unfold M.bind at P'
  cases q : f ρ with
  | ok fl ρ1 =>
    rw [q] at P'
    cases fl with
    | nx => exact fun σ' B' H' e' L' => h2 F ρ1 σ' B' H' N L' (PostS.weak P' e')
    | bk => exact P'
    | ct => exact P'
    | rt d o => exact P'
  | rz c ρ1 => rw [q] at P'; exact P'
  | fail => rw [q] at P'; exact P'
theorem svs_one {f : M Fl} (h1 : SV X W st f) : SVs X W [st] f := fun F ρ σ B H N L P => PSs.wss (pss_one ps_ws) (h1 F ρ σ B H N L P)
def Slot.of : D × Ob → Option Slot
  | (d, .ff) => some (.fz d)
  | (d, .tt) => some (.ow d)
  | (d, .dp m) => some (.dp m d)
  | (_, .al) => none
def mPut (i : Nat) (p : D × Ob) : M Fl := fun ρ => match Slot.of p with
  | some s => .ok .nx (ρ.set i s)
  | none => .fail
def mSet (i : Nat) (f : M (D × Ob)) : M Fl := M.bind f (mPut i)
theorem Lv.put {K : PySem.W.Frag} {F : Fr} {ρ : Env} {σ : St} {B H : Hp} {v : V} {p : D × Ob} {i : Nat} {s : Slot} (L : Lv K F ρ σ B H) (w : VO K F ρ σ B H v p.1 p.2) (hs : Slot.of p = some s) : Lv K F (ρ.set i s) (σ.set i (some v)) B H := by
  obtain ⟨d, o⟩ := p
  have own : ∀ {S : List Addr}, Ft K B H v s S → (∀ a ∈ S, (F.A a ∨ F.H0 a = none) ∧ ¬ OwS K B H ρ σ a) → (∀ d, s ≠ .io d) → Lv K F (ρ.set i s) (σ.set i (some v)) B H := by
    intro S f g nio
    have L1 : Lv K F (ρ.set i .un) (σ.set i (some v)) B H := L.store rfl fun d' z => nomatch z
    by_cases hi : i < ρ.length
    · have L2 := L1.own (i := i) (t := s) (v := v) (List.getElem?_set_self (by rw [← L.len]; exact hi)) f (fun a m => (g a m).1) (fun a m h => by
        rw [List.set_set] at h
        exact (g a m).2 h.store) (fun d z => absurd z (nio d))
      rw [List.set_set] at L2; exact L2
    · have e1 : ρ.set i s = ρ := List.set_eq_of_length_le (by omega)
      have e2 : σ.set i (some v) = σ := List.set_eq_of_length_le (by rw [← L.len]; omega)
      rw [e1, e2]; exact L
  cases o with
  | ff => injection hs with hs; subst hs; exact L.store rfl fun d' z => by injection z with z; subst z; exact w
  | tt =>
    injection hs with hs; subst hs
    obtain ⟨a, rfl, w, g, no⟩ := w
    exact own ⟨a, rfl, w, rfl⟩ (fun b hb => by rw [List.mem_singleton.mp hb]; exact ⟨g, no⟩) (fun d z => nomatch z)
  | dp m =>
    injection hs with hs; subst hs
    obtain ⟨S, t, nd, g⟩ := w
    exact own ⟨t, nd⟩ g (fun d z => nomatch z)
  | al => cases hs
theorem PostS.put {X : Cx} {W : WX} {F : Fr} {B : Hp} {N : Ends} {ρ : Env} {σ : St} {H : Hp} {v : V} {p : D × Ob} {i : Nat} (P : PostS X W F B (mPut i p ρ) N) (L : Lv X.K F ρ σ B H) (w : VO X.K F ρ σ B H v p.1 p.2) : N.nx (σ.set i (some v)) H := by
  unfold mPut at P
  cases q : Slot.of p with
  | none => simp only [q] at P; exact P.elim
  | some s => simp only [q] at P; exact P _ B H (Ex.refl _) (L.put w q)
theorem sv_set {i : Nat} {x : Str} {pos' : Pos} {f : M (D × Ob)} (he : EO X W e f) (hN : X.N.Nodup) (hi : X.N[i]? = some x := by rfl) (hx : Loc X.env.scope x := by first | exact Or.inl rfl | exact Or.inr rfl)
    (hs : swapsWith e (some (.Name x pos')) pos.line X.env = pure false := by rfl) (hf : X.fn x = true ∨ X.env.scope.names.lookup x = some .local := by first | exact .inl rfl | exact .inr rfl | assumption) : SV X W (.Assign [.Name x pos'] e pos) (mSet i f) := by
  intro F ρ σ B H N L P
  refine PS.ws (ps_set hN hi hx pe_we hs hf) ?_
  refine he F ρ σ B H _ L ((PostS.bind P).imp fun p ρ1 B1 H1 e1 L1 P1 v w => ?_)
  exact P1.put L1 w
def mAsg (g : D → Env → Option Env) (f : M D) : M Fl := M.bind f fun d ρ => match g d ρ with
  | some ρ' => .ok .nx ρ'
  | none => .fail
theorem sv_asg {tg : Expr} {is : List Nat} {g : D → Env → Option Env} {f : M D} (he : EV X W e f) (hg : GV X tg is g) (hs : swapsWithSole [tg] e pos.line X.env = pure false := by rfl) (hw : swappedStores [tg] e X.env = pure none := by rfl)
    (h1 : (assignEach [tg] X.env).map (·.2) = [assign tg X.env] := by rfl) : SV X W (.Assign [tg] e pos) (mAsg g f) := by
  intro F ρ σ B H N L P
  refine PS.ws (ps_asg pe_we pg_wg hs hw h1) ?_
  refine he F ρ σ B H _ L ((PostS.bind P).imp fun d ρ1 B1 H1 e1 L1 P1 v fv => ?_)
  refine hg F ρ1 σ B1 H1 v d _ L1 fv ?_
  cases q : g d ρ1 with
  | none => simp only [q] at P1; exact P1
  | some ρ2 => simp only [q] at P1; exact fun σ' B' H' _ e' L' => P1 σ' B' H' e' L'
def mPar (i j : Nat) (f : M (List D)) : M Fl := M.bind f fun ds ρ => match ds with
  | [x, y] => .ok .nx ((ρ.set i (.fz x)).set j (.fz y))
  | _ => .fail
theorem sv_par {i j : Nat} {x y : Str} {a b : Expr} {px py pt : Pos} {kt k2 : Nat} {pt2 : Pos} {f : M (List D)} (hc : X.calm = true) (hN : X.N.Nodup) (ha : EA X W [a, b] f) (hi : X.N[i]? = some x := by rfl) (hj : X.N[j]? = some y := by rfl) (hij : i ≠ j := by decide)
    (hx : X.env.scope.names.lookup x = some .local := by rfl) (hy : X.env.scope.names.lookup y = some .local := by rfl)
    (hw : swappedStores [.Tuple [.Name x px, .Name y py] kt pt] (.Tuple [a, b] k2 pt2) X.env = pure (some [x, y]) := by rfl)
    (hs : swapsWithSole [.Tuple [.Name x px, .Name y py] kt pt] (.Tuple [a, b] k2 pt2) pos.line X.env = pure false := by rfl) :
    SV X W (.Assign [.Tuple [.Name x px, .Name y py] kt pt] (.Tuple [a, b] k2 pt2) pos) (mPar i j f) := by
  intro F ρ σ B H N L P
  refine PS.ws (ps_par hc hN hi hj hij hx hy pa_wa hw hs) ?_
  refine ha F ρ σ B H _ L ((PostS.bind P).imp fun ds ρ1 B1 H1 e1 L1 P1 vs fs => ?_)
  split at P1
  · cases fs with
    | cons f1 fs =>
      cases fs with
      | cons f2 fs =>
        cases fs
        refine ⟨_, _, rfl, P1 _ B1 H1 (Ex.refl _) ?_⟩
        exact (L1.store (i := i) rfl fun d' z => by injection z with z; subst z; exact f1).store (i := j) rfl fun d' z => by injection z with z; subst z; exact f2
  · exact P1.elim
def mRet (f : M (D × Ob)) : M Fl := M.bind f fun p => M.pure (.rt p.1 p.2)
theorem sv_ret {f : M (D × Ob)} (he : EO X W e f) : SV X W (.Return (some e) pos) (mRet f) := by
  intro F ρ σ B H N L P
  refine PS.ws (ps_ret pe_we) ?_
  exact he F ρ σ B H _ L ((PostS.bind P).imp fun p ρ1 B1 H1 e1 L1 P1 v w => P1 v σ B1 H1 (Ex.refl _) L1 w)
def mDrop (f : M D) : M Fl := M.bind f fun _ => mNx
theorem sv_expr {f : M D} (he : EV X W e f) (hs : swapsWith e none pos.line X.env = pure false := by rfl) : SV X W (.Expr e pos) (mDrop f) := by
  intro F ρ σ B H N L P
  refine PS.ws (ps_expr pe_we hs) ?_
  exact he F ρ σ B H _ L ((PostS.bind P).imp fun p ρ1 B1 H1 e1 L1 P1 v w => P1 σ B1 H1 (Ex.refl _) L1)
theorem sv_if {c : Expr} {a b : List Stmt} {t : M Bool} {f g : M Fl} (hc : ET X W c t) (ha : SVs X W a f) (hb : SVs X W b g) : SV X W (.If c a b pos) (mIf t f g) := by
  intro F ρ σ B H N L P
  refine PS.ws (ps_if pt_wt pss_wss pss_wss) ?_
  refine hc F ρ σ B H _ L ((PostS.bind P).imp fun k ρ1 B1 H1 e1 L1 P1 => ?_)
  cases k with
  | true => rw [if_pos rfl]; exact ha F ρ1 σ B1 H1 N L1 P1
  | false => rw [if_neg Bool.false_ne_true]; exact hb F ρ1 σ B1 H1 N L1 P1
def mWhN (t : M Bool) (b : M Fl) : Nat → M Fl
  | 0 => M.fail
  | n + 1 => M.bind t fun k => match k with
    | false => mNx
    | true => M.bind b fun fl => match fl with
      | .nx => mWhN t b n
      | .ct => mWhN t b n
      | .bk => mNx
      | .rt d o => M.pure (.rt d o)
open Classical in
noncomputable def mWh (t : M Bool) (b : M Fl) : M Fl := fun ρ => if h : ∃ n, mWhN t b n ρ ≠ .fail then mWhN t b (choose h) ρ else .fail
theorem mWhN_up (t : M Bool) (b : M Fl) : ∀ (n : Nat) (ρ : Env), mWhN t b n ρ ≠ .fail → ∀ m, n ≤ m → mWhN t b m ρ = mWhN t b n ρ
  | 0, ρ, h, _, _ => absurd rfl h
  | n + 1, ρ, h, 0, hm => by omega
  | n + 1, ρ, h, m + 1, hm => by
    unfold mWhN M.bind at h ⊢
    cases q : t ρ with
    | ok k ρ1 =>
      simp only [q] at h ⊢
      cases k with
      | false => rfl
      | true =>
        simp only at h ⊢
        cases q2 : b ρ1 with
        | ok fl ρ2 =>
          simp only [q2] at h ⊢
          cases fl with
          | nx => exact mWhN_up t b n ρ2 h m (by omega)
          | ct => exact mWhN_up t b n ρ2 h m (by omega)
          | bk => rfl
          | rt d o => rfl
        | rz c ρ2 => rfl
        | fail => rfl
    | rz c ρ1 => rfl
    | fail => rfl
theorem mWh_eq {t : M Bool} {b : M Fl} {n : Nat} {ρ : Env} (h : mWhN t b n ρ ≠ .fail) : mWh t b ρ = mWhN t b n ρ := by
  have hx : ∃ n, mWhN t b n ρ ≠ .fail := ⟨n, h⟩
  unfold mWh
  rw [dif_pos hx]
  have h2 := Classical.choose_spec hx
  by_cases q : n ≤ Classical.choose hx
  · exact mWhN_up t b n ρ h _ q
  · exact (mWhN_up t b _ ρ h2 n (by omega)).symm
theorem sv_while {c : Expr} {body : List Stmt} {t : M Bool} {b : M Fl} (hp : PassesOwn (model X.prog X.w) X.A X.env X.xe) (hc : ET X W c t) (hb : SVs X W body b) : SV X W (.While c body [] pos) (mWh t b) := by
  intro F ρ σ B H N L P
  refine PS.ws (ps_while hp pt_wt pss_wss) ?_
  unfold mWh at P
  split at P
  · rename_i hx
    refine ⟨fun m σ' H' => ∃ ρ' B', Lv X.K F ρ' σ' B' H' ∧ PostS X W F B' (mWhN t b m ρ') N, ⟨_, ρ, B, L, P⟩, ?_⟩
    rintro m σ1 H1 ⟨ρ1, B1, L1, P1⟩
    cases m with
    | zero => exact P1.elim
    | succ n =>
      unfold mWhN at P1
      refine hc F ρ1 σ1 B1 H1 _ L1 ((PostS.bind P1).imp fun k ρ2 B2 H2 e2 L2 P2 => ?_)
      cases k with
      | false => rw [if_neg Bool.false_ne_true]; exact P2 σ1 B2 H2 (Ex.refl _) L2
      | true =>
        rw [if_pos rfl]
        refine ⟨fun σ' H' => ∃ ρ' B', Lv X.K F ρ' σ' B' H' ∧ PostS X W F B' (mWhN t b n ρ') N, fun σ' H' q => ⟨n, Nat.lt_succ_self n, q⟩, ?_⟩
        refine hb F ρ2 σ1 B2 H2 _ L2 ?_
        have P3 : PostS X W F B2 (M.bind b _ ρ2) N := P2
        unfold M.bind at P3
        cases q : b ρ2 with
        | ok fl ρ3 =>
          rw [q] at P3
          cases fl with
          | nx => exact fun σ' B' H' e' L' => ⟨ρ3, B', L', PostS.weak P3 e'⟩
          | ct => exact fun σ' B' H' e' L' => ⟨ρ3, B', L', PostS.weak P3 e'⟩
          | bk => exact P3
          | rt d o => exact P3
        | rz c ρ3 => rw [q] at P3; exact P3
        | fail => rw [q] at P3; exact P3
  · exact P.elim
end
section
variable {X : Cx} {W : WX} {tg e : Expr} {pos : Pos}
structure Wi (X : Cx) (tg iter : Expr) (σ : St) (H : Hp) (R : It → Hp → Prop) : Prop where
  run : ∀ (pins : List (Addr × Obj)) (s : Shared), Inv X pins σ H s → wpAny (model X.prog X.w) X.A (eval iter X.env) (fun v s1 => wpAny (model X.prog X.w) X.A (pyIter v) (PIE X pins σ tg R) X.xe s1) X.xe s
def wi (X : Cx) (tg iter : Expr) : TI := Wi X tg iter
theorem pi_wi : PI X tg e (wi X tg e) := ⟨fun pins s _ _ _ I h => Wi.run h pins s I⟩
theorem PI.wi {t : TI} {σ : St} {H : Hp} {R : It → Hp → Prop} (h : PI X tg e t) (q : t σ H R) : wi X tg e σ H R := Wi.mk fun pins s I => h.run pins s σ H R I q
structure ItOk (K : PySem.W.Frag) (J : It) (B : Hp) (ds : List D) : Prop where
  go : ∀ B' H' i, Ex B B' → Ex B' H' → i < ds.length → J.go i H'
  stop : ∀ B' H' i, Ex B B' → Ex B' H' → ds.length ≤ i → J.stop i H'
  yld : ∀ B' H' i x H3 d, Ex B B' → Ex B' H' → J.yld i H' x H3 → ds[i]? = some d → (H3 = H' ∧ Fz K B' x d) ∨ (∃ p o, H' p = none ∧ H3 = upd H' p o ∧ Fz K (upd B' p o) x d) ∨ ∃ p xs, H' p = some (.tup xs) ∧ B' p = none ∧ H3 = H' ∧ Fz K (upd B' p (.tup xs)) x d
def IV (X : Cx) (W : WX) (tg iter : Expr) (f : M (List D)) : Prop := ∀ (F : Fr) (ρ : Env) (σ : St) (B H : Hp) (R : It → Hp → Prop), Lv X.K F ρ σ B H →
  Post X W F σ B (f ρ) (fun ds _ B' H' => ∀ J, ItOk X.K J B' ds → R J H') → wi X tg iter σ H R
def mIter (f : M D) : M (List D) := M.bind f fun d => M.opt (match d with
  | .lst ds => some ds
  | _ => none)
theorem it_list {K : PySem.W.Frag} {a : Addr} {xs : List V} {B : Hp} {ds : List D} (h : B a = some (.lst xs)) (fs : Fzs K B xs ds) : ItOk K (Itl K a) B ds where
  go := fun B' H' i e1 e2 hi => by
    have hi' : i < xs.length := by rw [fs.len]; exact hi
    exact ⟨xs, xs[i], .inl (.inl (e2 _ _ (e1 _ _ h))), List.getElem?_eq_getElem hi'⟩
  stop := fun B' H' i e1 e2 hi => ⟨xs, .inl (.inl (e2 _ _ (e1 _ _ h))), by rw [fs.len]; exact hi⟩
  yld := fun B' H' i x H3 d e1 e2 y hd => by
    obtain ⟨hH, hx⟩ := y
    have h1 := hx xs (.inl (.inl (e2 _ _ (e1 _ _ h))))
    obtain ⟨d', hd', f⟩ := fs.getV h1
    rw [hd] at hd'; cases hd'
    exact .inl ⟨hH, f.mono e1⟩
theorem iv_list {f : M D} (he : EV X W e f) : IV X W tg e (mIter f) := by
  intro F ρ σ B H R L P
  refine PI.wi (pi_list pe_we) ?_
  refine he F ρ σ B H _ L ((Post.bind P).imp fun d ρ1 B1 H1 e1 L1 P1 v fv => ?_)
  obtain ⟨ds, hd, k⟩ := P1.opt
  cases fv with
  | @lst a xs ds' h fs =>
    injection hd with hd; subst hd
    exact ⟨a, rfl, ⟨xs, .inl (.inl (L1.ex _ _ h))⟩, k B1 H1 (Ex.refl _) L1 _ (it_list h fs)⟩
  | _ => cases hd
def rangeD (lo hi : Int) : List D := (List.range (hi - lo).toNat).map fun (i : Nat) => D.int (lo + (i : Int))
theorem rangeD_len (lo hi : Int) : (rangeD lo hi).length = (hi - lo).toNat := by unfold rangeD; rw [List.length_map, List.length_range]
theorem it_range {K : PySem.W.Frag} {B : Hp} (lo hi : Int) : ItOk K (Itr lo (hi - lo).toNat) B (rangeD lo hi) where
  go := fun B' H' i e1 e2 h => by rw [rangeD_len] at h; exact h
  stop := fun B' H' i e1 e2 h => by rw [rangeD_len] at h; exact h
  yld := fun B' H' i x H3 d e1 e2 y hd => by
    obtain ⟨hH, hx⟩ := y
    unfold rangeD at hd
    rw [List.getElem?_map] at hd
    cases q : (List.range (hi - lo).toNat)[i]? with
    | none => rw [q] at hd; cases hd
    | some j =>
      rw [q] at hd
      obtain ⟨h1, h2⟩ := List.getElem?_eq_some_iff.mp q
      rw [List.getElem_range] at h2
      injection hd with hd
      subst hd; subst h2
      exact .inl ⟨hH, by rw [hx]; exact .int _⟩
def mRange1 (f : M (List D)) : M (List D) := M.bind f fun ds => M.opt (match ds with
  | [.int j] => if -100000000 < j ∧ j < 100000000 then some (rangeD 0 j) else none
  | _ => none)
def mRange2 (f : M (List D)) : M (List D) := M.bind f fun ds => M.opt (match ds with
  | [.int i, .int j] => if (-100000000 < i ∧ i < 100000000) ∧ (-100000000 < j ∧ j < 100000000) then some (rangeD i j) else none
  | _ => none)
theorem iv_range1 {a : Expr} {p : Pos} {f : M (List D)} (hg : Gl X "range") (hm : X.mg "range" = none) (ha : EA X W [a] f) (hs : starEach [a] X.env = [(false, eval a X.env)] := by rfl) : IV X W tg (.Call (.Name "range" p) [a] [] pos) (mRange1 f) := by
  intro F ρ σ B H R L P
  refine PI.wi (pi_range1 hg hm pa_wa hs) ?_
  refine ha F ρ σ B H _ L ((Post.bind P).imp fun ds ρ1 B1 H1 e1 L1 P1 vs fs => ?_)
  obtain ⟨xs, hd, k⟩ := P1.opt
  split at hd
  · rename_i j
    cases fs with
    | cons f1 fs =>
      cases fs
      cases f1
      split at hd
      · rename_i hj
        injection hd with hd; subst hd
        refine ⟨j, rfl, by omega, by omega, ?_⟩
        have := k B1 H1 (Ex.refl _) L1 (Itr 0 j.toNat) (by have q := it_range (K := X.K) (B := B1) 0 j; rw [show j - 0 = j by omega] at q; exact q)
        exact this
      · cases hd
  · cases hd
def mForL (g : D → Env → Option Env) (b : M Fl) : List D → M Fl
  | [] => mNx
  | d :: r => fun ρ => match g d ρ with
    | none => .fail
    | some ρ1 => M.bind b (fun fl => match fl with
      | .nx => mForL g b r
      | .ct => mForL g b r
      | .bk => mNx
      | .rt d o => M.pure (.rt d o)) ρ1
def mFor (f : M (List D)) (g : D → Env → Option Env) (b : M Fl) : M Fl := M.bind f (mForL g b)
theorem sv_for {iter : Expr} {body : List Stmt} {is : List Nat} {f : M (List D)} {g : D → Env → Option Env} {b : M Fl} (hp : PassesOwn (model X.prog X.w) X.A X.env X.xe) (hc : X.calm = true) (hi : IV X W tg iter f) (hg : GV X tg is g) (hb : SVs X W body b)
    (hs : ∀ x, foldedSetIterable iter X.env x = pure x := by intro _; rfl) : SV X W (.For tg iter body [] pos) (mFor f g b) := by
  intro F ρ σ B H N L P
  refine PS.ws (ps_for hp hc pi_wi pg_wg pss_wss hs) ?_
  refine hi F ρ σ B H _ L ((PostS.bind P).imp fun ds ρ1 B1 H1 e1 L1 P1 J hJ => ?_)
  refine ⟨fun i m σ' H' => m = ds.length - i ∧ i ≤ ds.length ∧ ∃ ρ' B', Lv X.K F ρ' σ' B' H' ∧ Ex B1 B' ∧ PostS X W F B' (mForL g b (ds.drop i) ρ') N, ⟨ds.length, by simp, Nat.zero_le _, ρ1, B1, L1, Ex.refl _, P1⟩, ?_⟩
  rintro i m σ2 H2 ⟨rfl, hi2, ρ2, B2, L2, e2, P2⟩
  by_cases hlt : i < ds.length
  · refine .inr ⟨hJ.go B2 H2 i e2 L2.ex hlt, fun σ' H' => ∃ ρ' B', Lv X.K F ρ' σ' B' H' ∧ Ex B1 B' ∧ PostS X W F B' (mForL g b (ds.drop (i + 1)) ρ') N, fun σ' H' q => ⟨ds.length - (i + 1), by omega, rfl, hlt, q⟩, fun x H3 hy => ?_⟩
    rw [List.drop_eq_getElem_cons hlt] at P2
    have hd : ds[i]? = some ds[i] := List.getElem?_eq_getElem hlt
    have fin : ∀ (B3 : Hp), Ex B2 B3 → Lv X.K F ρ2 σ2 B3 H3 → Fz X.K B3 x ds[i] → wg X tg x σ2 H3 (fun σ3 H4 => wss X body { nx := fun σ' H' => ∃ ρ' B', Lv X.K F ρ' σ' B' H' ∧ Ex B1 B' ∧ PostS X W F B' (mForL g b (ds.drop (i + 1)) ρ') N, rt := N.rt, bk := N.nx, ct := fun σ' H' => ∃ ρ' B', Lv X.K F ρ' σ' B' H' ∧ Ex B1 B' ∧ PostS X W F B' (mForL g b (ds.drop (i + 1)) ρ') N } σ3 H4) := by
      intro B3 e3 L3 fx
      refine hg F ρ2 σ2 B3 H3 x ds[i] _ L3 fx ?_
      have P3 : PostS X W F B2 (match g ds[i] ρ2 with | none => .fail | some ρ1 => M.bind b (fun fl => match fl with | .nx => mForL g b (ds.drop (i + 1)) | .ct => mForL g b (ds.drop (i + 1)) | .bk => mNx | .rt d o => M.pure (.rt d o)) ρ1) N := P2
      cases q : g ds[i] ρ2 with
      | none => rw [q] at P3; exact P3.elim
      | some ρ3 =>
        rw [q] at P3
        intro σ4 B4 H4 _ e4 L4
        refine hb F ρ3 σ4 B4 H4 _ L4 ?_
        have P4 := PostS.weak P3 (e3.trans e4)
        have P5 : PostS X W F B4 (M.bind b _ ρ3) N := P4
        unfold M.bind at P5
        cases q2 : b ρ3 with
        | ok fl ρ4 =>
          rw [q2] at P5
          cases fl with
          | nx => exact fun σ' B' H' e' L' => ⟨ρ4, B', L', ((e2.trans e3).trans e4).trans e', PostS.weak P5 e'⟩
          | ct => exact fun σ' B' H' e' L' => ⟨ρ4, B', L', ((e2.trans e3).trans e4).trans e', PostS.weak P5 e'⟩
          | bk => exact P5
          | rt d o => exact P5
        | rz c ρ4 => rw [q2] at P5; exact P5
        | fail => rw [q2] at P5; exact P5
    rcases hJ.yld B2 H2 i x H3 _ e2 L2.ex hy hd with ⟨rfl, fx⟩ | ⟨p, o, hp2, rfl, fx⟩ | ⟨p, xs, hp2, hp3, rfl, fx⟩
    · exact fin B2 (Ex.refl _) L2 fx
    · exact fin _ (Ex.new (L2.ex.nn hp2)) (L2.alloc hp2) fx
    · exact fin _ (Ex.new hp3) (L2.freezeT hp2 hp3) fx
  · have e : i = ds.length := by omega
    subst e
    rw [List.drop_length] at P2
    exact .inl ⟨hJ.stop B2 H2 _ e2 L2.ex (Nat.le_refl _), P2 σ2 B2 H2 (Ex.refl _) L2⟩
end
end Dt
namespace Dt
open PySem PySem.Spec PyProof.Rows L2
section
variable {X : Cx} {K : PySem.W.Frag}
def iI (C : Int → Int → Bool) (f : Int → Int → Int) : D → D → Option D
  | .int i, .int j => if C i j = true then some (.int (f i j)) else none
  | _, _ => none
def iB (f : Int → Int → Bool) : D → D → Option D
  | .int i, .int j => some (.bl (f i j))
  | _, _ => none
theorem opd_I {C : Int → Int → Prop} {c : Int → Int → Bool} {f : Int → Int → Int} (hc : ∀ i j, c i j = true → C i j) : OpD K (rI C fun i j => .int (f i j)) (iI c f) := by
  intro x y dx dy d B H Q ex fx fy h g
  unfold iI at h
  split at h
  · cases fx; cases fy
    split at h
    · rename_i hh
      injection h with h; subst h
      exact ⟨_, _, rfl, rfl, hc _ _ hh, g.1 _ (.int _)⟩
    · cases h
  · cases h
theorem opd_I0 {f : Int → Int → Int} : OpD K (rI0 fun i j => .int (f i j)) (iI (fun _ _ => true) f) := by
  intro x y dx dy d B H Q ex fx fy h g
  unfold iI at h
  split at h
  · cases fx; cases fy
    rw [if_pos rfl] at h
    injection h with h; subst h
    exact ⟨_, _, rfl, rfl, g.1 _ (.int _)⟩
  · cases h
theorem opd_B {f : Int → Int → Bool} : OpD K (rI0 fun i j => .bl (f i j)) (iB f) := by
  intro x y dx dy d B H Q ex fx fy h g
  unfold iB at h
  split at h
  · cases fx; cases fy
    injection h with h; subst h
    exact ⟨_, _, rfl, rfl, g.1 _ (.bl _)⟩
  · cases h
def mulOk (i j : Int) : Bool := decide (i.natAbs.log2 + j.natAbs.log2 < 100000000)
theorem mulOk_ok {i j : Int} (h : mulOk i j = true) : IntMulOk i j := by
  have b : ∀ x : Int, Builtin.Int.intBits x ≤ x.natAbs.log2 + 1 := fun x => by
    unfold Builtin.Int.intBits
    split <;> omega
  have h1 := b i
  have h2 := b j
  have h3 : i.natAbs.log2 + j.natAbs.log2 < 100000000 := of_decide_eq_true h
  have e : bitsLine = 134217728 := by decide
  unfold IntMulOk
  intro z
  rw [Bool.and_eq_true] at z
  have z2 := z.2
  unfold Builtin.Int.intTooBig at z2
  have z3 := of_decide_eq_true z2
  rw [e] at z3
  omega
theorem op_mulB : OpR X (binaryOp .Mult) (rI (fun i j => mulOk i j = true) fun i j => .int (i * j)) := opI fun _ _ _ _ _ _ _ hc q => mul_int q (mulOk_ok hc)
def divOk (_ j : Int) : Bool := decide (j ≠ 0)
def modOk (_ j : Int) : Bool := decide (j ≠ 0)
theorem op_modB : OpR X (binaryOp .Mod) (rI (fun i j => modOk i j = true) fun i j => .int (i.fmod j)) := opI fun _ _ _ _ _ _ _ hc q => mod_int' (of_decide_eq_true hc) q
def powOk (i j : Int) : Bool := decide (0 ≤ j) && decide (j ≤ 1000) && decide (i.natAbs < 2 ^ 64)
theorem op_powB : OpR X (binaryOp .Pow) (rI (fun i j => powOk i j = true) fun i j => .int (i ^ j.toNat)) := opI fun _ _ _ _ _ _ _ hc q => by
  unfold powOk at hc
  rw [Bool.and_eq_true, Bool.and_eq_true] at hc
  have h1 := of_decide_eq_true hc.1.1
  have h2 := of_decide_eq_true hc.1.2
  have h3 := of_decide_eq_true hc.2
  exact pow_int_small h1 (by omega) h3 q
def dSub : D → D → Option D := iI (fun _ _ => true) fun i j => i - j
def dDiv : D → D → Option D := iI divOk fun i j => i.fdiv j
def dMod : D → D → Option D := iI modOk fun i j => i.fmod j
def dPow : D → D → Option D := iI powOk fun i j => i ^ j.toNat
def dLt : D → D → Option D := iB fun i j => decide (i < j)
def dLe : D → D → Option D := iB fun i j => decide (i ≤ j)
def dGt : D → D → Option D := iB fun i j => decide (j < i)
def dGe : D → D → Option D := iB fun i j => decide (j ≤ i)
variable {W : WX} {e a b c : Expr} {pos : Pos} {f1 f2 f3 : M D}
theorem ev_sub (ha : EV X W a f1) (hb : EV X W b f2) : EV X W (.BinOp a .Sub b pos) (mBin dSub f1 f2) := ev_op op_sub opd_I0 ha hb
theorem ev_mod (ha : EV X W a f1) (hb : EV X W b f2) : EV X W (.BinOp a .Mod b pos) (mBin dMod f1 f2) := ev_op op_modB (opd_I fun _ _ h => h) ha hb
theorem ev_pow (ha : EV X W a f1) (hb : EV X W b f2) : EV X W (.BinOp a .Pow b pos) (mBin dPow f1 f2) := ev_op op_powB (opd_I fun _ _ h => h) ha hb
theorem ev_lt (ha : EV X W a f1) (hb : EV X W b f2) : EV X W (.Compare a [.Lt] [b] pos) (mBin dLt f1 f2) := ev_cmp op_lt opd_B ha hb
theorem ev_le (ha : EV X W a f1) (hb : EV X W b f2) : EV X W (.Compare a [.LtE] [b] pos) (mBin dLe f1 f2) := ev_cmp op_le opd_B ha hb
theorem ev_gt (ha : EV X W a f1) (hb : EV X W b f2) : EV X W (.Compare a [.Gt] [b] pos) (mBin dGt f1 f2) := ev_cmp op_gt opd_B ha hb
theorem ev_ge (ha : EV X W a f1) (hb : EV X W b f2) : EV X W (.Compare a [.GtE] [b] pos) (mBin dGe f1 f2) := ev_cmp op_ge opd_B ha hb
theorem et_lt (ha : EV X W a f1) (hb : EV X W b f2) : ET X W (.Compare a [.Lt] [b] pos) (mTest (mBin dLt f1 f2)) := et_cmp op_lt opd_B ha hb
theorem et_gt (ha : EV X W a f1) (hb : EV X W b f2) : ET X W (.Compare a [.Gt] [b] pos) (mTest (mBin dGt f1 f2)) := et_cmp op_gt opd_B ha hb
theorem et_ge (ha : EV X W a f1) (hb : EV X W b f2) : ET X W (.Compare a [.GtE] [b] pos) (mTest (mBin dGe f1 f2)) := et_cmp op_ge opd_B ha hb
def dNeg : D → Option D
  | .int i => some (.int (-i))
  | _ => none
theorem ev_neg (ha : EV X W a f1) : EV X W (.UnaryOp .USub a pos) (mUn dNeg f1) := ev_un un_neg (fun x dx d B H Q ex fx h g => by
  cases fx with
  | int i => injection h with h; subst h; exact ⟨i, rfl, g.1 _ (.int _)⟩
  | _ => cases h) ha
def tooLong (n : Nat) : Bool := decide (10000000 < n)
def dAdd : D → D → Option D
  | .int i, .int j => some (.int (i + j))
  | .str x, .str y => if tooLong (x.length + y.length) = true then none else some (.str (x ++ y))
  | .lst xs, .lst ys => if tooLong (xs.length + ys.length) = true then none else some (.lst (xs ++ ys))
  | .tup xs, .tup ys => if tooLong (xs.length + ys.length) = true then none else some (.tup (xs ++ ys))
  | _, _ => none
theorem notLong {n : Nat} (h : ¬ tooLong n = true) : n ≤ sizeLine := by
  have h1 : n ≤ 10000000 := by
    unfold tooLong at h
    rw [decide_eq_true_iff] at h
    omega
  exact Nat.le_trans h1 (by decide)
theorem len_line' {n : Nat} (h : n ≤ 10000000) : n ≤ sizeLine := Nat.le_trans h (by decide)
theorem ev_add (ha : EV X W a f1) (hb : EV X W b f2) : EV X W (.BinOp a .Add b pos) (mBin dAdd f1 f2) := by
  refine ev_op (((op_add.or op_add_str).or op_catA).or op_cat) (fun x y dx dy d B H Q ex fx fy h g => ?_) ha hb
  cases fx with
  | int i =>
    cases fy with
    | int j => injection h with h; subst h; exact .inl (.inl (.inl ⟨i, j, rfl, rfl, g.1 _ (.int _)⟩))
    | _ => cases h
  | str x =>
    cases fy with
    | str y =>
      have h' : (if tooLong (x.length + y.length) = true then none else some (D.str (x ++ y))) = some d := h
      split at h'
      · cases h'
      · rename_i hl
        injection h' with h'; subst h'
        exact .inl (.inl (.inr ⟨x, y, rfl, rfl, notLong hl, g.1 _ (.str _)⟩))
    | _ => cases h
  | @lst l xs ds hl fs =>
    cases fy with
    | @lst l2 ys es hl2 fs2 =>
      have h' : (if tooLong (ds.length + es.length) = true then none else some (D.lst (ds ++ es))) = some d := h
      split at h'
      · cases h'
      · rename_i hz
        injection h' with h'; subst h'
        refine .inr ⟨l, l2, xs, ys, rfl, rfl, ex _ _ hl, ex _ _ hl2, by rw [fs.len, fs2.len]; exact notLong hz, fun p hp => g.2 p _ _ hp (.lst upd_same ?_)⟩
        exact (fs.append fs2).mono (Ex.new (ex.nn hp))
    | _ => cases h
  | @tup l xs ds hl fs =>
    cases fy with
    | @tup l2 ys es hl2 fs2 =>
      have h' : (if tooLong (ds.length + es.length) = true then none else some (D.tup (ds ++ es))) = some d := h
      split at h'
      · cases h'
      · rename_i hz
        injection h' with h'; subst h'
        refine .inl (.inr ⟨l, l2, xs, ys, rfl, rfl, ex.st hl, ex.st hl2, by rw [fs.len, fs2.len]; exact notLong hz, fun z => ?_, fun _ z => ?_, fun _ _ p hp => g.2 p _ _ hp (.tup (.inl (.inl upd_same)) ((fs.append fs2).mono (Ex.new (ex.nn hp))))⟩)
        · subst z; cases fs; exact g.1 _ (.tup hl2 fs2)
        · subst z; cases fs2
          rw [List.append_nil] at g
          exact g.1 _ (.tup hl fs)
    | _ => cases h
  | _ => cases h
def dMul : D → D → Option D
  | .int i, .int j => if mulOk i j = true then some (.int (i * j)) else none
  | .lst xs, .int k => if k < 10000 ∧ -10000 < k ∧ xs.length ≤ 1000 then some (.lst (List.replicate k.toNat xs).flatten) else none
  | _, _ => none
theorem Fzs.rep {K : PySem.W.Frag} {B : Hp} {vs : List V} {ds : List D} (h : Fzs K B vs ds) : ∀ k : Nat, Fzs K B (List.replicate k vs).flatten (List.replicate k ds).flatten
  | 0 => .nil
  | k + 1 => by
    rw [List.replicate_succ, List.replicate_succ, List.flatten_cons, List.flatten_cons]
    exact Fzs.append h (Fzs.rep h k)
theorem ev_mul (ha : EV X W a f1) (hb : EV X W b f2) : EV X W (.BinOp a .Mult b pos) (mBin dMul f1 f2) := by
  refine ev_op (op_mulB.or op_rep) (fun x y dx dy d B H Q ex fx fy h g => ?_) ha hb
  cases fx with
  | int i =>
    cases fy with
    | int j =>
      have h' : (if mulOk i j = true then some (D.int (i * j)) else none) = some d := h
      split at h'
      · rename_i hm
        injection h' with h'; subst h'; exact .inl ⟨i, j, rfl, rfl, hm, g.1 _ (.int _)⟩
      · cases h'
    | _ => cases h
  | @lst l xs ds hl fs =>
    cases fy with
    | int k =>
      have h' : (if k < 10000 ∧ -10000 < k ∧ ds.length ≤ 1000 then some (D.lst (List.replicate k.toNat ds).flatten) else none) = some d := h
      split at h'
      · rename_i hk
        injection h' with h'; subst h'
        refine .inr ⟨l, k, xs, rfl, rfl, ex _ _ hl, by omega, by omega, ?_, fun p hp => g.2 p _ _ hp (.lst upd_same ((fs.rep k.toNat).mono (Ex.new (ex.nn hp))))⟩
        have h1 : xs.length ≤ 1000 := by rw [fs.len]; exact hk.2.2
        have h2 : k.toNat ≤ 10000 := by omega
        exact len_line' (Nat.le_trans (Nat.mul_le_mul h1 h2) (by decide))
      · cases h'
    | _ => cases h
  | _ => cases h
def shp (d : D) : Bool := SeqAt.shaped d.py
def dEq : D → D → Option D
  | .int i, .int j => some (.bl (i == j))
  | .str i, .str j => some (.bl (i == j))
  | d, e => if shp d = true ∧ shp e = true then some (.bl (PyData.eqv d.py e.py)) else none
def dNe : D → D → Option D
  | .int i, .int j => some (.bl (!(i == j)))
  | .str i, .str j => some (.bl (!(i == j)))
  | d, e => if shp d = true ∧ shp e = true then some (.bl (!PyData.eqv d.py e.py)) else none
theorem opd_eq : OpD K (fun x y H Q => rEq x y H Q ∨ rEqD K x y H Q) dEq := by
  intro x y dx dy d B H Q ex fx fy h g
  unfold dEq at h
  split at h
  · cases fx; cases fy
    injection h with h; subst h
    exact .inl ⟨rfl, by rw [dec_int]; exact g.1 _ (.bl _)⟩
  · cases fx; cases fy
    injection h with h; subst h
    exact .inl ⟨rfl, by rw [dec_str]; exact g.1 _ (.bl _)⟩
  · split at h
    · rename_i hh
      injection h with h; subst h
      exact .inr ⟨_, _, fx.dp ex (D.nd_lay (SeqAt.canLay_of_shaped hh.1)), fy.dp ex (D.nd_lay (SeqAt.canLay_of_shaped hh.2)), hh.1, hh.2, g.1 _ (.bl _)⟩
    · cases h
theorem opd_ne : OpD K (fun x y H Q => rNe x y H Q ∨ rNeD K x y H Q) dNe := by
  intro x y dx dy d B H Q ex fx fy h g
  unfold dNe at h
  split at h
  · cases fx; cases fy
    injection h with h; subst h
    exact .inl ⟨rfl, by rw [dec_int]; exact g.1 _ (.bl _)⟩
  · cases fx; cases fy
    injection h with h; subst h
    exact .inl ⟨rfl, by rw [dec_str]; exact g.1 _ (.bl _)⟩
  · split at h
    · rename_i hh
      injection h with h; subst h
      exact .inr ⟨_, _, fx.dp ex (D.nd_lay (SeqAt.canLay_of_shaped hh.1)), fy.dp ex (D.nd_lay (SeqAt.canLay_of_shaped hh.2)), hh.1, hh.2, g.1 _ (.bl _)⟩
    · cases h
theorem ev_eq (hu : X.A.units + 64 < cLine) (ha : EV X W a f1) (hb : EV X W b f2) : EV X W (.Compare a [.Eq] [b] pos) (mBin dEq f1 f2) := ev_cmp (op_eq.or (op_eqD hu)) opd_eq ha hb
theorem et_eq (hu : X.A.units + 64 < cLine) (ha : EV X W a f1) (hb : EV X W b f2) : ET X W (.Compare a [.Eq] [b] pos) (mTest (mBin dEq f1 f2)) := et_cmp (op_eq.or (op_eqD hu)) opd_eq ha hb
theorem ev_ne (hu : X.A.units + 64 < cLine) (ha : EV X W a f1) (hb : EV X W b f2) : EV X W (.Compare a [.NotEq] [b] pos) (mBin dNe f1 f2) := ev_cmp (op_ne.or (op_neD hu)) opd_ne ha hb
theorem et_ne (hu : X.A.units + 64 < cLine) (ha : EV X W a f1) (hb : EV X W b f2) : ET X W (.Compare a [.NotEq] [b] pos) (mTest (mBin dNe f1 f2)) := et_cmp (op_ne.or (op_neD hu)) opd_ne ha hb
def dIs : D → D → Option D
  | .bl i, .bl j => some (.bl (decide (i = j)))
  | .non, .non => some (.bl true)
  | .lst _, .non => some (.bl false)
  | .tup _, .non => some (.bl false)
  | .int _, .non => some (.bl false)
  | .str _, .non => some (.bl false)
  | .key _, .non => some (.bl false)
  | _, _ => none
def dIsNot : D → D → Option D
  | .bl i, .bl j => some (.bl (!decide (i = j)))
  | .non, .non => some (.bl false)
  | .lst _, .non => some (.bl true)
  | .tup _, .non => some (.bl true)
  | .int _, .non => some (.bl true)
  | .str _, .non => some (.bl true)
  | .key _, .non => some (.bl true)
  | _, _ => none
def flatD : D → Bool
  | .non => true
  | .bl _ => true
  | .int _ => true
  | .str _ => true
  | _ => false
def eqF : D → D → Bool
  | .non, .non => true
  | .bl a, .bl b => a == b
  | .bl a, .int b => (if a then 1 else 0) == b
  | .int a, .bl b => a == (if b then 1 else 0)
  | .int a, .int b => a == b
  | .str a, .str b => a == b
  | _, _ => false
theorem Fz.flat {K : PySem.W.Frag} {B : Hp} {v : V} {d : D} (h : Fz K B v d) (f : flatD d = true) : flatV v = true := by
  cases h <;> first | rfl | cases f
theorem Fz.eqF {K : PySem.W.Frag} {B : Hp} {v w : V} {d e : D} (h : Fz K B v d) (g : Fz K B w e) (f : flatD d = true) (f' : flatD e = true) : eqV v w = eqF d e := by
  cases h <;> cases g <;> first | rfl | (exfalso; exact Bool.false_ne_true f) | (exfalso; exact Bool.false_ne_true f')
theorem Fzs.flat {K : PySem.W.Frag} {B : Hp} : ∀ {vs : List V} {ds : List D}, Fzs K B vs ds → ds.all flatD = true → vs.all flatV = true
  | _, _, .nil, _ => rfl
  | _, _, .cons h hs, f => by
    rw [List.all_cons, Bool.and_eq_true] at f ⊢
    exact ⟨h.flat f.1, Fzs.flat hs f.2⟩
theorem Fzs.inF {K : PySem.W.Frag} {B : Hp} {x : V} {dx : D} (fx : Fz K B x dx) (hx : flatD dx = true) : ∀ {vs : List V} {ds : List D}, Fzs K B vs ds → ds.all flatD = true → inV x vs = ds.any (fun y => Dt.eqF y dx)
  | _, _, .nil, _ => rfl
  | _, _, .cons h hs, f => by
    rw [List.all_cons, Bool.and_eq_true] at f
    have ih := Fzs.inF fx hx hs f.2
    unfold inV at ih ⊢
    rw [List.any_cons, List.any_cons, ih, h.eqF fx f.1 hx]
def dIn (neg : Bool) : D → D → Option D := fun x s => match s with
  | .lst ds => if flatD x = true ∧ ds.all flatD = true then some (.bl (if neg then !ds.any (fun y => eqF y x) else ds.any (fun y => eqF y x))) else none
  | .tup ds => if flatD x = true ∧ ds.all flatD = true then some (.bl (if neg then !ds.any (fun y => eqF y x) else ds.any (fun y => eqF y x))) else none
  | _ => none
theorem opd_in {neg : Bool} : OpD K (rIn K neg) (dIn neg) := by
  intro x y dx dy d B H Q ex fx fy h g
  cases fy with
  | @lst l ys ds hl fs =>
    have h' : (if flatD dx = true ∧ ds.all flatD = true then some (D.bl (if neg then !ds.any (fun y => eqF y dx) else ds.any (fun y => eqF y dx))) else none) = some d := h
    split at h'
    · rename_i hh
      injection h' with h'; subst h'
      refine ⟨l, ys, rfl, .inl (.inl (.inl (ex _ _ hl))), fx.flat hh.1, fs.flat hh.2, ?_⟩
      rw [fs.inF fx hh.1 hh.2]
      exact g.1 _ (.bl _)
    · cases h'
  | @tup l ys ds hl fs =>
    have h' : (if flatD dx = true ∧ ds.all flatD = true then some (D.bl (if neg then !ds.any (fun y => eqF y dx) else ds.any (fun y => eqF y dx))) else none) = some d := h
    split at h'
    · rename_i hh
      injection h' with h'; subst h'
      refine ⟨l, ys, rfl, .inr (ex.st hl), fx.flat hh.1, fs.flat hh.2, ?_⟩
      rw [fs.inF fx hh.1 hh.2]
      exact g.1 _ (.bl _)
    · cases h'
  | _ => cases h
theorem ev_in (ha : EV X W a f1) (hb : EV X W b f2) (hm : behindInMarks .In b = false := by rfl) : EV X W (.Compare a [.In] [b] pos) (mBin (dIn false) f1 f2) := ev_cmp op_in_seq opd_in ha hb hm
theorem et_notin (ha : EV X W a f1) (hb : EV X W b f2) (hm : behindInMarks .NotIn b = false := by rfl) : ET X W (.Compare a [.NotIn] [b] pos) (mTest (mBin (dIn true) f1 f2)) := et_cmp op_notIn_seq opd_in ha hb hm
def dIx : D → D → Option D
  | .lst ds, .int i => atI ds i
  | .tup ds, .int i => atI ds i
  | .scr ns, .int i => (atI ns i).map D.int
  | .str x, .int i => if tooLong x.length = true then none else (atI x.cps.toList i).map fun c => D.str ⟨#[c]⟩
  | _, _ => none
theorem Fzs.atI {K : PySem.W.Frag} {B : Hp} {vs : List V} {ds : List D} {i : Int} {d : D} (h : Fzs K B vs ds) (e : L2.atI ds i = some d) : ∃ v, L2.atI vs i = some v ∧ Fz K B v d := by
  unfold L2.atI at e ⊢
  rw [h.len]
  cases q : ixN ds.length i with
  | none => rw [q] at e; cases e
  | some j =>
    rw [q] at e
    exact h.get e
theorem opd_ix : OpD K (rIx K) dIx := by
  intro x y dx dy d B H Q ex fx fy h g
  cases fx with
  | @lst l xs ds hl fs =>
    cases fy with
    | int i =>
      obtain ⟨v, h1, h2⟩ := fs.atI (show L2.atI ds i = some d from h)
      exact .inl ⟨l, xs, i, v, rfl, rfl, .inl (.inl (ex _ _ hl)), h1, g.1 _ h2⟩
    | _ => cases h
  | @tup l xs ds hl fs =>
    cases fy with
    | int i =>
      obtain ⟨v, h1, h2⟩ := fs.atI (show L2.atI ds i = some d from h)
      exact .inr (.inl ⟨l, xs, i, v, rfl, rfl, ex.st hl, h1, g.1 _ h2⟩)
    | _ => cases h
  | @scr l ns hl =>
    cases fy with
    | int i =>
      have h' : (L2.atI ns i).map D.int = some d := h
      cases q : L2.atI ns i with
      | none => rw [q] at h'; cases h'
      | some n =>
        rw [q] at h'
        injection h' with h'; subst h'
        refine .inl ⟨l, ns.map V.int, i, .int n, rfl, rfl, ex.sl hl, ?_, g.1 _ (.int n)⟩
        unfold L2.atI at q ⊢
        rw [List.length_map]
        cases q2 : ixN ns.length i with
        | none => rw [q2] at q; cases q
        | some j =>
          rw [q2] at q
          have q' : ns[j]? = some n := q
          show (ns.map V.int)[j]? = some (V.int n)
          rw [List.getElem?_map, q']; rfl
    | _ => cases h
  | str x =>
    cases fy with
    | int i =>
      have h' : (if tooLong x.length = true then none else (L2.atI x.cps.toList i).map fun c => D.str ⟨#[c]⟩) = some d := h
      split at h'
      · cases h'
      · rename_i hz
        cases q : L2.atI x.cps.toList i with
        | none => rw [q] at h'; cases h'
        | some c =>
          rw [q] at h'
          injection h' with h'; subst h'
          exact .inr (.inr ⟨x, i, c, rfl, rfl, notLong hz, q, g.1 _ (.str _)⟩)
    | _ => cases h
  | _ => cases h
theorem ev_item (ha : EV X W a f1) (hb : EV X W b f2) (hs : PlainIx b := by exact fun _ _ => rfl) : EV X W (.Subscript a b pos) (mBin dIx f1 f2) := ev_ix ix_seq opd_ix ha hb hs
end
end Dt
namespace Dt
open PySem PySem.Spec PyProof.Rows L2
structure Quiet0 (P : Program) (base : Heap) (A : Around) : Prop where
  g : A.guards = some []
  s : base.NoSeer
  t : P.given.tree = none
structure Quiet (P : Program) (base : Heap) (A : Around) : Prop extends Quiet0 P base A where
  f : ∃ env l, A.frames = some (env :: l) ∧ env.scope.isGenerator = false ∧ env.scope.isCoroutine = false ∧ env.builtins = builtinsNs ∧ env.globals = mainGlobals
theorem op_fdivB {X : Cx} {k : Nat} (gd : Quiet X.prog X.base X.A) (hr : Room k X.A) (hk : 32 ≤ k) : OpR X (binaryOp .FloorDiv) (rI (fun i j => divOk i j = true) fun i j => .int (i.fdiv j)) := by
  intro pins s σ H x y v u Q I rx ry h
  obtain ⟨i, j, rfl, rfl, hc, q⟩ := h
  obtain ⟨t, rfl⟩ := rx
  obtain ⟨t', rfl⟩ := ry
  obtain ⟨env, l, f1, f2, f3, f4, f5⟩ := gd.f
  have hd := hr.dp
  exact floordiv_int (of_decide_eq_true hc) ⟨.int (i.fdiv j), H, I.tok _, ⟨_, rfl⟩, q⟩ (.inr (PySem.PylongRoom.of I.nolimit (by show X.A.depth + 100 < _; omega) (PySem.SeerAt.of (gd.s.keeps I.bk) gd.t f1 f2 f3 f4 f5)))
theorem ev_fdiv {X : Cx} {W : WX} {k : Nat} {a b : Expr} {pos : Pos} {f1 f2 : M D} (gd : Quiet X.prog X.base X.A) (hr : Room k X.A) (hk : 32 ≤ k) (ha : EV X W a f1) (hb : EV X W b f2) : EV X W (.BinOp a .FloorDiv b pos) (mBin dDiv f1 f2) := ev_op (op_fdivB gd hr hk) (opd_I fun _ _ h => h) ha hb
structure FnG (P : Program) (w : World) (K : PySem.W.Frag) (mg : Str → Option Value) (base : Heap) (k : Nat) (f : Addr) (fd : FuncData) (ps : List Str) (sp : Sp) : Prop where
  many : ∀ vs H Q E, sp vs H Q E → vs.length = ps.length
  go : ∀ {A : Around} {o : List PySem.Env} {s : Shared} {H : Hp} {g : Args} {us : List Value} {vs : List V} {Q : VK} {E : XK}, Quiet0 P base A → Room k A → Env0 P w K mg base A o s H →
    BindsTo s fd g (ps.zip us) → Vals vs us → sp vs H Q E → codeAny (model P w) A (.call (.ref f) g) (CR (L2.CX P w) o P w H s Q E) s
theorem FnG.imp {P : Program} {w : World} {K : PySem.W.Frag} {mg : Str → Option Value} {base : Heap} {k : Nat} {f : Addr} {fd : FuncData} {ps : List Str} {sp tp : Sp} (F : FnG P w K mg base k f fd ps sp) (h : ∀ vs H Q E, tp vs H Q E → sp vs H Q E) : FnG P w K mg base k f fd ps tp :=
  ⟨fun _ _ _ _ z => F.many _ _ _ _ (h _ _ _ _ z), fun q r e b v z => F.go q r e b v (h _ _ _ _ z)⟩
theorem fng_of {P : Program} {w : World} {K : PySem.W.Frag} {mg : Str → Option Value} {base : Heap} {x qual : Str} {st : Stmt} {f : Addr} {fd : FuncData} {N ps : List Str} {k : Nat} {sp : Sp} (F : Fun K x qual st f fd) (S : FnScope N ps (defScope st)) (many : ∀ vs H Q E, sp vs H Q E → vs.length = ps.length)
    (hb : ∀ (c : Value) (A : Around) (o : List PySem.Env) (s : Shared) (H : Hp) (vs : List V) (Q : VK) (E : XK), Quiet P base (A.deeper (envOfC qual (defScope st) s.heap.objs.size f c)) → Room k (A.deeper (envOfC qual (defScope st) s.heap.objs.size f c)) → sp vs H Q E →
      ∃ t, PSs (cxOf (L2.CX P w) P w K mg base N qual (defScope st) f c A o s H E) (defBody st) t ∧ t { nx := fun _ Z => Q .non Z, rt := Q } (start N vs) H) : FnG P w K mg base (k + 1) f fd ps sp := by
  obtain ⟨_, _, _, _, _, _, c, _, _, rfl, look, code⟩ := F.ex
  refine ⟨many, @fun A o s H g us vs Q E quiet room e0 bnd rv spec => ?_⟩
  have kin : K.In s.heap := e0.mod.kin.keeps fun b z q => (e0.bs b z q).1
  have nol : s.heap.NoLimit := e0.mod.nolimit.keeps fun b z q => (e0.bs b z q).1
  have kd : ∀ y ∈ ps.zip us, (defScope st).names.lookup y.1 = some .local ∨ ((defScope st).names.lookup y.1 = some .cell ∧ ((cellsFrom (s.heap.objs.size + 1) (defScope st).names []).lookup y.1).isSome = true) := by
    rintro ⟨n, v⟩ hy
    exact (S.par n (List.of_mem_zip hy).1).imp id fun q => ⟨q, PySem.W.cellsFrom_some _ _ _ (.inl q)⟩
  refine codeAny_call_function room.depth (kin _ _ look) rfl S.co S.gen rfl (PySem.W.codeRec_of kin code) (bnd _ _ _ _ (wpAny_newFunctionEnv_cells S.kind kd ?_))
  rintro _ rfl s1 ic
  refine ⟨nol.keeps ic.toInCall.keep, codeAny_func ?_⟩
  obtain ⟨t, ht, hq⟩ := hb c A o s H vs Q E ⟨⟨quiet.g, quiet.s, quiet.t⟩, _, _, Around.frames_deeper e0.frames, S.gen, S.co, rfl, rfl⟩ (room.deeper _) spec
  refine wpAny_mono (ht.run [] s1 _ H _ (inv_start (CX := L2.CX P w) (E := E) S room.hd e0 (many _ _ _ _ spec) rv ic) hq) ?_ (fun _ _ z => z)
  rintro (_ | _ | _ | u) z hz
  · obtain ⟨_, Z, J, q⟩ := hz
    exact ⟨.non, Z, J.os, J.bare, J.base, J.hok, rfl, q⟩
  · obtain ⟨_, _, _, q⟩ := hz
    exact q.elim
  · obtain ⟨_, _, _, q⟩ := hz
    exact q.elim
  · obtain ⟨v, _, Z, J, r, q⟩ := hz
    exact ⟨v, Z, J.os, J.bare, J.base, J.hok, r, q⟩
section
variable {X : Cx} {k : Nat} {f : Addr} {fd : FuncData} {ps : List Str} {sp : Sp} {E : St → XK} {x : Str} {p pos : Pos} {e : Expr} {es : List Expr} {t : TA}
theorem pe_callG (F : FnG X.prog X.w X.K X.mg X.base k f fd ps sp) (quiet : Quiet X.prog X.base X.A) (room : Room k X.A) (gl : Gl X x) (m : X.mg x = some (.ref f)) (kp : PySem.W.keepIn X.K (.ref f) = true) (bnd : Binds X.K fd ps []) (pass : ∀ σ, PassesAt (L2.CX X.prog X.w) X σ (E σ))
    (args : PA X (e :: es) t) (nd : (x == ("__debug__" : Str)) = false := by decide) (h1 : starEach (e :: es) X.env = (false, eval e X.env) :: starEach es X.env := by exact star_un rfl) (h2 : (backTo pos (starEach es X.env)).any (·.1) = false := by rfl) :
    PE X (.Call (.Name x p) (e :: es) [] pos) (tCallS sp E t) := by
  constructor
  intro pins s σ H Q I h
  refine wpAny_Call_Name_kw (ld_glob I gl m (PySem.W.callWith_K (h₀ := X.base) I.ok.mod.kin kp (thn (args.run pos pins s σ H _ I h) ?_) h1 h2) nd)
  rintro us s1 ⟨vs, H1, J, rv, q⟩
  refine ⟨J.kIn, ?_⟩
  have many : us.length = ps.length := rv.length ▸ F.many _ _ _ _ q
  have b0 := bnd s1 us J.kIn (by simpa using many)
  rw [List.append_nil] at b0
  refine wpAny_call (codeAny_mono (F.go quiet.toQuiet0 room J.env0 b0 rv q) ?_)
  rintro (err | (_ | _ | _ | u)) z hz
  · exact pass σ pins H1 s1 err z J hz
  · exact hz.elim
  · exact hz.elim
  · exact hz.elim
  · exact J.after hz
end
section
variable {P : Program} {w : World} {K : PySem.W.Frag} {mg mb : Str → Option Value} {k : Nat} {fa a : Addr} {fd : FuncData} {x : Str} {sp : Sp} {s : Shared} {vs : List Value} {ns : List Int}
abbrev Done (s : Shared) (r : Result) (z : Shared) : Prop := r = .ok (.ret (.bool true)) ∧ OldK s.heap z.heap ∧ z.os = s.os ∧ AllBare z.gens
abbrev scriptObj (vs : List Value) : Obj := { cls := .type "list", data := .seq vs.toArray }
theorem top_go (kin : K.In s.heap) (glb : s.heap.Ns mainGlobals mg) (blt : s.heap.Ns builtinsNs mb) (boot : ∀ x : Str, x ≠ "__name__" → mb x = bootBuiltins x) (nol : s.heap.NoLimit) (seer : s.heap.NoSeer) (tree : P.given.tree = none) (gens : s.gens = #[])
    (scr : s.heap.get? a = some (scriptObj vs)) (room : Room k callerA) (F : ∀ b : Heap, K.In b → b.Ns mainGlobals mg → FnG P w K mg b k fa fd [x] sp) (bnd : ∀ (s : Shared) (u : Value), BindsTo s fd ⟨[u], []⟩ [(x, u)])
    (H : Hp) (spec : sp [.ref a] H (fun v _ => v = .bl true) fun _ _ _ => False) (only : Only H) (hok : HOk P w H s.heap) (at_ : ∀ b, H b ≠ none → b = a) (out : H a ≠ none → K.lookup a = none) :
    codeAny (model P w) callerA (.call (.ref fa) ⟨[.ref a], []⟩) (Done s) s := by
  have here : ∀ {b : Addr} {z : HO}, H b = some z → b = a := fun {b z} q => at_ b (by rw [q]; exact Option.some_ne_none z)
  have free : ∀ {b : Addr} {z : Obj}, K.lookup b = some z → H b = none := by
    intro b z q
    match e : H b with
    | none => rfl
    | some y =>
      have i := here e
      rw [i] at e q
      rw [out (by rw [e]; exact Option.some_ne_none y)] at q
      cases q
  have dict : ∀ {b : Addr} {m : Str → Option Value}, s.heap.Ns b m → (hidT s.heap H).Ns b m := by
    rintro b m ⟨z, es, ep, q, dz, r⟩
    refine ⟨z, es, ep, hidT_get q ?_, dz, r⟩
    match e : H b with
    | none => rfl
    | some y =>
      rw [here e, scr] at q
      injection q with q
      rw [← q] at dz
      cases dz
  have nos : (hidT s.heap H).NoSeer := by
    obtain ⟨⟨m1, a1, b1⟩, ⟨m2, a2, b2⟩, ⟨m3, a3, b3⟩, m4, bm, ob, a4, b4, c4, d4, e4⟩ := seer
    refine ⟨⟨m1, dict a1, b1⟩, ⟨m2, dict a2, b2⟩, ⟨m3, dict a3, b3⟩, m4, bm, ob, dict a4, b4, hidT_get c4 ?_, d4, e4⟩
    match e : H bm with
    | none => rfl
    | some y =>
      rw [here e, scr] at c4
      injection c4 with c4
      rw [← c4] at d4
      injection d4 with d4
      exact absurd d4 (by decide)
  have kb : K.In (hidT s.heap H) := fun b z q => hidT_get (kin b z q) (free q)
  obtain ⟨mc, n1, n2⟩ := nol
  have e0 : Env0 P w K mg (hidT s.heap H) callerA [] s H :=
    ⟨rfl, ⟨kb, dict glb, ⟨mb, dict blt, boot⟩, ⟨mc, dict n1, n2⟩⟩, fun _ _ q => of_hidT q, Nat.le_of_eq (hidT_size _ _), trivial, (fun b q => absurd (show b ∈ ([] : List Addr) from q) List.not_mem_nil), hok, .of_eq gens⟩
  refine codeAny_mono ((F _ kb (dict glb)).go (us := [.ref a]) (vs := [.ref a]) ⟨rfl, nos, tree⟩ room e0 (bnd s (.ref a)) (.cons rfl .nil) spec) ?_
  rintro (err | (_ | _ | _ | u)) z hz
  · obtain ⟨_, _, _, _, _, _, _, _, _, _, _, _, no⟩ := hz
    exact no.elim
  · exact hz.elim
  · exact hz.elim
  · exact hz.elim
  · obtain ⟨v, Z, os, bare, un, okZ, rv, rfl⟩ := hz
    have : u = Value.bool true := rv
    subst this
    refine ⟨rfl, OldK.of_keep fun b z0 q => ?_, os, bare⟩
    match e : H b with
    | none => exact un.keep b z0 q e (fun m => absurd (show b ∈ ([] : List Addr) from m) List.not_mem_nil) (fun m => absurd (show b ∈ ([] : List Addr) from m) List.not_mem_nil)
    | some y =>
      rcases only b with n | ⟨ob, xs, n⟩
      · rw [n] at e; cases e
      · have g1 := (hok b _ n).1
        have g2 := (okZ b _ (un.frzs b ob _ n)).1
        rw [q] at g1
        injection g1 with g1
        rw [g1]; exact g2
theorem top_call (kin : K.In s.heap) (glb : s.heap.Ns mainGlobals mg) (blt : s.heap.Ns builtinsNs mb) (boot : ∀ x : Str, x ≠ "__name__" → mb x = bootBuiltins x) (nol : s.heap.NoLimit) (seer : s.heap.NoSeer) (tree : P.given.tree = none) (gens : s.gens = #[])
    (scr : s.heap.get? a = some (scriptObj vs)) (inz : IntsAre vs ns) (few : ns.length ≤ sizeLine) (room : Room k callerA) (F : ∀ b : Heap, K.In b → b.Ns mainGlobals mg → FnG P w K mg b k fa fd [x] sp) (bnd : ∀ (s : Shared) (u : Value), BindsTo s fd ⟨[u], []⟩ [(x, u)])
    (spec : ∀ H : Hp, SqL K H a (ns.map V.int) → sp [.ref a] H (fun v _ => v = .bl true) fun _ _ _ => False) :
    codeAny (model P w) callerA (.call (.ref fa) ⟨[.ref a], []⟩) (Done s) s := by
  have rv := vals_ints inz
  have many := inz.length
  match e : K.lookup a with
  | some z =>
    have q := kin a z e
    rw [scr] at q
    injection q with q
    subst q
    refine top_go kin glb blt boot nol seer tree gens scr room F bnd (fun _ => none) (spec _ (.inr ⟨_, vs.toArray, _, e, rfl, rfl, rfl, ?_, ?_⟩)) (fun _ => .inl rfl) (fun _ _ z => nomatch z) (fun _ z => (z rfl).elim) (fun z => (z rfl).elim)
    · rw [List.size_toArray, many]; exact few
    · simpa using rv
  | none =>
    have yes : ∀ {b : Addr}, b = a → (fun b => if b = a then some (HO.frz (scriptObj vs) (.lst (ns.map V.int))) else none) b = some (HO.frz (scriptObj vs) (.lst (ns.map V.int))) := fun q => if_pos q
    have nay : ∀ {b : Addr}, b ≠ a → (fun b => if b = a then some (HO.frz (scriptObj vs) (.lst (ns.map V.int))) else none) b = none := fun q => if_neg q
    generalize (fun b => if b = a then some (HO.frz (scriptObj vs) (.lst (ns.map V.int))) else none) = H at yes nay
    have isA : ∀ b, H b ≠ none → b = a := fun b z => Classical.byContradiction fun n => z (nay n)
    refine top_go kin glb blt boot nol seer tree gens scr room F bnd H (spec H (.inl (.inr ⟨_, yes rfl⟩))) (fun b => ?_) (fun b z q => ?_) isA (fun _ => e)
    · by_cases n : b = a
      · exact .inr ⟨_, _, yes n⟩
      · exact .inl (nay n)
    · have n : b = a := isA b (by rw [q]; exact Option.some_ne_none z)
      rw [yes n] at q
      injection q with q
      subst q; subst n
      exact ⟨scr, by rw [List.length_map]; exact few, vs, _, rv, scr⟩
end
theorem walk_g {l : PySem.W.OpenLaw} {n k : Nat} {q : Program} {loose : List Str} {XP : (Str → Option Value) → Heap → Prop} {YP : World → Heap → Prop} {d : DefRec} {K : Params → PySem.W.Frag} {sp : World → Sp} {x : Str} (hn : l.most = some n) (himp : importsNone q = true) (tree : l.prog.given.tree = none) (few : n ≤ sizeLine) (nodef : d.params.defaults = []) (room : Room k callerA) (hY : ∀ (w : World) (h : Heap), YP w h → (K w.params).In h)
    (F : ∀ (w : World) (mg : Str → Option Value) (fa : Addr) (h : Heap), (K w.params).In h → h.Ns mainGlobals mg → mg d.name = some (.ref fa) → ∃ fd : FuncData, (∀ (s : Shared) (u : Value), BindsTo s fd ⟨[u], []⟩ [(x, u)]) ∧ ∀ b : Heap, (K w.params).In b → b.Ns mainGlobals mg → FnG l.prog w (K w.params) mg b k fa fd [x] (sp w))
    (spec : ∀ (w : World) (H : Hp) (a : Addr) (ns : List Int), ns.length ≤ n → (∀ z ∈ ns, Builtin.Int.intBits z ≤ 1048576) → SqL (K w.params) H a (ns.map V.int) → sp w [.ref a] H (fun v _ => v = .bl true) fun _ _ _ => False) : PySem.W.WalkO q loose XP YP l.row.toRowW d [] (fun f vs => PySem.call f vs) := by
  refine Att.attach_callB hn nodef ?_
  intro w _ s1 mg _ fa _ _ _ _ a _ ns G Y _ _ _ hmg scr inz hl bits gens
  obtain ⟨fd, bnd, go⟩ := F w mg fa _ (hY w _ Y) G.T.g hmg
  exact top_call (hY w _ Y) G.T.g G.T.b G.T.builtins G.T.nolimit (G.T.seer himp) tree gens scr inz (Nat.le_trans hl few) room go bnd (fun H hS => spec w H a ns hl bits hS)
end Dt
namespace Dt
open PySem PySem.Spec PyProof.Rows L2
structure Cr (A : Addr → Prop) (B H B' H' : Hp) : Prop where
  ex : Ex B' H'
  exB : Ex B B'
  kept : ∀ a o, H a = some o → ¬ A a → H' a = some o
  hid : ∀ a, B a = none → Ct H a → ¬ A a → B' a = none
  there : ∀ a, H a ≠ none → H' a ≠ none
theorem Cr.keeps {K : PySem.W.Frag} {F : Fr} {ρ : Env} {σ : St} {B H B' H' : Hp} {A : Addr → Prop} (L : Lv K F ρ σ B H) (c : Cr A B H B' H') (no : ∀ b, A b → ¬ OwS K B H ρ σ b) : ∀ a, OwS K B H ρ σ a → B' a = none ∧ ∀ o, H a = some o → H' a = some o := fun a w =>
  ⟨c.hid a (L.hidOw w).1 (L.hidOw w).2 fun z => no a z w, fun o q => c.kept a o q fun z => no a z w⟩
theorem Lv.callN {K : PySem.W.Frag} {F : Fr} {ρ : Env} {σ : St} {B H B' H' : Hp} {A : Addr → Prop} (L : Lv K F ρ σ B H) (c : Cr A B H B' H') (hA : ∀ b, A b → F.A b ∨ F.H0 b = none) (no : ∀ b, A b → ¬ OwS K B H ρ σ b) : Lv K F ρ σ B' H' := by
  refine L.move c.ex c.exB (c.keeps L no) (fun a o e n => ?_) (fun a e => c.there a (L.there a e)) (fun a e n k => ?_)
  · refine c.kept a o (L.kept a o e n) fun z => ?_
    rcases hA a z with q | q
    · exact n q
    · rw [q] at e; cases e
  · refine c.hid a (L.hid a e n k) (n.to fun o q => L.kept a o q k) fun z => ?_
    rcases hA a z with q | q
    · exact k q
    · exact n.ne q
inductive Rf where
  | ok (d : D) (o : Ob) (out : D)
  | rz (c : Str)
  | fail
inductive Args (K : PySem.W.Frag) (B H : Hp) (a : Addr) : Option Nat → List V → List D → Prop
  | nil : Args K B H a none [] []
  | fz {v : V} {d : D} {vs : List V} {ds : List D} : Fz K B v d → Args K B H a none vs ds → Args K B H a none (v :: vs) (d :: ds)
  | io {d : D} {vs : List V} {ds : List D} : Ow K B H a d → Args K B H a none vs ds → Args K B H a (some 0) (.ref a :: vs) (d :: ds)
  | fzS {j : Nat} {v : V} {d : D} {vs : List V} {ds : List D} : Fz K B v d → Args K B H a (some j) vs ds → Args K B H a (some (j + 1)) (v :: vs) (d :: ds)
def initS : Option Nat → List D → List Slot
  | _, [] => []
  | none, d :: r => .fz d :: initS none r
  | some 0, d :: r => .io d :: initS none r
  | some (j + 1), d :: r => .fz d :: initS (some j) r
def initE (m : Option Nat) (n : Nat) (ds : List D) : Env := initS m ds ++ List.replicate (n - ds.length) .un
def fin (m : Option Nat) (d : D) (o : Ob) (ρ : Env) : Rf := match m with
  | none => .ok d o .non
  | some j => match ρ[j]? with
    | some (.io out) => .ok d o out
    | _ => .fail
def runF (m : Option Nat) (n : Nat) (fb : M Fl) (ds : List D) : Rf := match fb (initE m n ds) with
  | .ok .nx ρ => fin m .non .ff ρ
  | .ok (.rt d o) ρ => fin m d o ρ
  | .rz c _ => .rz c
  | _ => .fail
def frP (m : Option Nat) (a : Addr) : List (Option Addr) := match m with
  | none => []
  | some j => List.replicate j none ++ [some a]
def ioA (m : Option Nat) (a : Addr) (b : Addr) : Prop := m ≠ none ∧ b = a
def frOf (m : Option Nat) (a : Addr) (B H : Hp) : Fr := ⟨B, H, ioA m a, frP m a⟩
def RV (K : PySem.W.Frag) (H B' H' : Hp) (a : Addr) (v : V) (d : D) : Ob → Prop
  | .tt => ∃ p, v = .ref p ∧ Ow K B' H' p d ∧ H p = none
  | .ff => Fz K B' v d
  | .dp m => ∃ S, Tr K B' H' m v d S ∧ S.Nodup ∧ ∀ p ∈ S, H p = none
  | .al => v = .ref a
def spF (K : PySem.W.Frag) (mg : Str → Option Value) (n : Nat) (m : Option Nat) (g : List D → Rf) : Sp := fun vs H Q E => ∃ (B : Hp) (ds : List D) (a : Addr), Ex B H ∧ Args K B H a m vs ds ∧ vs.length = n ∧
  match g ds with
  | .ok d o out => ∀ v B' H', Cr (ioA m a) B H B' H' → (m ≠ none → Ow K B' H' a out) → RV K H B' H' a v d o → Q v H'
  | .rz c => ∀ B' H', Cr (ioA m a) B H B' H' → E ((mg c).getD .none) none H'
  | .fail => False
section
variable {K : PySem.W.Frag} {B H : Hp} {a : Addr}
theorem Args.len : ∀ {m : Option Nat} {vs : List V} {ds : List D}, Args K B H a m vs ds → vs.length = ds.length
  | _, _, _, .nil => rfl
  | _, _, _, .fz _ r => by rw [List.length_cons, List.length_cons, Args.len r]
  | _, _, _, .io _ r => by rw [List.length_cons, List.length_cons, Args.len r]
  | _, _, _, .fzS _ r => by rw [List.length_cons, List.length_cons, Args.len r]
theorem initS_len : ∀ (m : Option Nat) (ds : List D), (initS m ds).length = ds.length
  | none, [] => rfl
  | some 0, [] => rfl
  | some (_ + 1), [] => rfl
  | none, d :: r => by show (initS none r).length + 1 = _; rw [initS_len none r]; rfl
  | some 0, d :: r => by show (initS none r).length + 1 = _; rw [initS_len none r]; rfl
  | some (j + 1), d :: r => by show (initS (some j) r).length + 1 = _; rw [initS_len (some j) r]; rfl
theorem Args.getF : ∀ {m : Option Nat} {vs : List V} {ds : List D} {i : Nat} {d : D}, Args K B H a m vs ds → (initS m ds)[i]? = some (.fz d) → ∃ v, vs[i]? = some v ∧ Fz K B v d
  | _, _, _, _, _, .nil, e => by simp [initS] at e
  | _, _, _, 0, _, .fz f _, e => by
    injection (show some (Slot.fz _) = some (Slot.fz _) from e) with e; injection e with e; subst e; exact ⟨_, rfl, f⟩
  | _, _, _, i + 1, d, .fz _ r, e => Args.getF (i := i) (d := d) r e
  | _, _, _, 0, _, .io _ _, e => by injection (show some (Slot.io _) = some (Slot.fz _) from e) with e; cases e
  | _, _, _, i + 1, d, .io _ r, e => Args.getF (i := i) (d := d) r e
  | _, _, _, 0, _, .fzS f _, e => by
    injection (show some (Slot.fz _) = some (Slot.fz _) from e) with e; injection e with e; subst e; exact ⟨_, rfl, f⟩
  | _, _, _, i + 1, d, .fzS _ r, e => Args.getF (i := i) (d := d) r e
theorem Args.getO : ∀ {m : Option Nat} {vs : List V} {ds : List D} {i : Nat} {s : Slot}, Args K B H a m vs ds → (initS m ds)[i]? = some s → owned s = true → m = some i ∧ vs[i]? = some (.ref a) ∧ Ow K B H a s.dat ∧ ∃ d, s = .io d
  | _, _, _, _, _, .nil, e, _ => by simp [initS] at e
  | _, _, _, 0, _, .fz f _, e, w => by injection (show some (Slot.fz _) = some _ from e) with e; subst e; cases w
  | _, _, _, i + 1, s, .fz _ r, e, w => by obtain ⟨h, _⟩ := Args.getO (i := i) (s := s) r e w; cases h
  | _, _, _, 0, _, .io f _, e, w => by injection (show some (Slot.io _) = some _ from e) with e; subst e; exact ⟨rfl, rfl, f, _, rfl⟩
  | _, _, _, i + 1, s, .io _ r, e, w => by obtain ⟨h, _⟩ := Args.getO (i := i) (s := s) r e w; cases h
  | _, _, _, 0, _, .fzS f _, e, w => by injection (show some (Slot.fz _) = some _ from e) with e; subst e; cases w
  | _, _, _, i + 1, s, .fzS _ r, e, w => by
    obtain ⟨h, q⟩ := Args.getO (i := i) (s := s) r e w
    injection h with h; subst h
    exact ⟨rfl, q⟩
theorem lv_start {m : Option Nat} {vs : List V} {ds : List D} {N : List Str} (A : Args K B H a m vs ds) (ex : Ex B H) (hN : vs.length ≤ N.length) :
    Lv K (frOf m a B H) (initE m N.length ds) (L2.start N vs) B H := by
  have hl := A.len
  have hs : ∀ {i : Nat} {s : Slot}, (initE m N.length ds)[i]? = some s → s = .un ∨ (initS m ds)[i]? = some s ∧ i < vs.length := fun {i s} e => by
    unfold initE at e
    by_cases h : i < (initS m ds).length
    · rw [List.getElem?_append_left h] at e
      exact .inr ⟨e, by rw [initS_len] at h; omega⟩
    · rw [List.getElem?_append_right (by omega)] at e
      exact .inl (List.eq_of_mem_replicate (List.mem_of_getElem? e))
  have ht : ∀ {i : Nat} {v : V}, vs[i]? = some v → (L2.start N vs)[i]? = some (some v) := fun {i v} e => by
    unfold L2.start
    have h := (List.getElem?_eq_some_iff.mp e).1
    rw [List.getElem?_append_left (by rw [List.length_map]; exact h), List.getElem?_map, e]; rfl
  refine ⟨ex, fun _ _ h _ => h, fun _ h => h, Ex.refl _, fun _ h _ _ => h, fun i d e => ?_, fun i s e w => ?_, fun i d e => ?_, fun i j s t v w S T b e1 e2 q1 q2 f1 f2 m1 m2 => ?_, ?_⟩
  · rcases hs e with z | ⟨e, _⟩
    · cases z
    · obtain ⟨v, e1, f⟩ := A.getF e
      exact ⟨v, ht e1, f⟩
  · rcases hs e with z | ⟨e, _⟩
    · subst z; cases w
    · obtain ⟨h1, h2, h3, d, rfl⟩ := A.getO e w
      exact ⟨.ref a, [a], ht h2, ⟨a, rfl, h3, rfl⟩, fun b hb => by rw [List.mem_singleton.mp hb]; exact .inl ⟨by rw [h1]; simp, rfl⟩⟩
  · rcases hs e with z | ⟨e, _⟩
    · cases z
    · obtain ⟨h1, h2, h3, _⟩ := A.getO e rfl
      subst h1
      refine ⟨a, ?_, ht h2⟩
      show (List.replicate i none ++ [some a])[i]? = some (some a)
      rw [List.getElem?_append_right (by rw [List.length_replicate]; omega), List.length_replicate, Nat.sub_self]; rfl
  · rcases hs e1 with z | ⟨e1, _⟩
    · subst z; exact f1.elim
    · rcases hs e2 with z | ⟨e2, _⟩
      · subst z; exact f2.elim
      · obtain ⟨h1, _⟩ := A.getO e1 f1.owned
        obtain ⟨h2, _⟩ := A.getO e2 f2.owned
        rw [h1] at h2; injection h2
  · show (initS m ds ++ List.replicate (N.length - ds.length) Slot.un).length = (vs.map some ++ List.replicate (N.length - vs.length) none).length
    rw [List.length_append, List.length_append, initS_len, List.length_replicate, List.length_replicate, List.length_map, hl]
end
theorem fn_def {P : Program} {w : World} {K : PySem.W.Frag} {mg : Str → Option Value} {base : Heap} {x qual : Str} {st : Stmt} {f : Addr} {fd : FuncData} {N ps : List Str} {k : Nat} {m : Option Nat} {fb : M Fl} (F : Fun K x qual st f fd) (S : FnScope N ps (defScope st)) (hps : ps.length ≤ N.length)
    (hbody : ∀ (cdv : Value) (A : Around) (outer : List PySem.Env) (s : Shared) (H : Hp) (E : XK), Quiet P base (A.deeper (envOfC qual (defScope st) s.heap.objs.size f cdv)) → Room k (A.deeper (envOfC qual (defScope st) s.heap.objs.size f cdv)) →
      SVs (cxOf (L2.CX P w) P w K mg base N qual (defScope st) f cdv A outer s H E) (fun cls d _ H => E cls d H) (defBody st) fb) : FnG P w K mg base (k + 1) f fd ps (spF K mg ps.length m (runF m N.length fb)) := by
  refine fng_of F S (fun vs H Q E h => by obtain ⟨_, _, _, _, _, h, _⟩ := h; exact h) (fun cdv A outer s H vs Q E gd hr h => ?_)
  refine ⟨_, pss_wss, ?_⟩
  obtain ⟨B, ds, a, ex, ar, hl, h⟩ := h
  have L := lv_start (N := N) ar ex (by omega)
  have done : ∀ {d : D} {o : Ob} {ρ' : Env} {v : V} {σ' : St} {B' H' : Hp}, (match fin m d o ρ' with
      | .ok d o out => ∀ v B' H', Cr (ioA m a) B H B' H' → (m ≠ none → Ow K B' H' a out) → RV K H B' H' a v d o → Q v H'
      | .rz c => ∀ B' H', Cr (ioA m a) B H B' H' → E ((mg c).getD .none) none H'
      | .fail => False) → Lv K (frOf m a B H) ρ' σ' B' H' → VO K (frOf m a B H) ρ' σ' B' H' v d o → Q v H' := by
    intro d o ρ' v σ' B' H' hq L' vo
    have cr : Cr (ioA m a) B H B' H' := ⟨L'.ex, L'.exB, L'.kept, L'.hid, L'.there⟩
    cases m with
    | none =>
      refine hq v B' H' cr (fun z => absurd rfl z) ?_
      cases o with
      | ff => exact vo
      | tt =>
        obtain ⟨p, e, ow, g, no⟩ := vo
        refine ⟨p, e, ow, ?_⟩
        rcases g with g | g
        · exact absurd rfl g.1
        · exact g
      | dp mk =>
        obtain ⟨S, t, nd, g⟩ := vo
        refine ⟨S, t, nd, fun p hp => ?_⟩
        rcases (g p hp).1 with g | g
        · exact absurd rfl g.1
        · exact g
      | al =>
        obtain ⟨j, b, p1, _⟩ := vo
        have p1' : ([] : List (Option Addr))[j]? = some (some b) := p1
        simp at p1'
    | some j =>
      unfold fin at hq
      cases q : ρ'[j]? with
      | none => simp only [q] at hq
      | some sl =>
        cases sl with
        | io out =>
          simp only [q] at hq
          obtain ⟨b, e1, w1, _⟩ := L'.ow j _ q rfl
          have pa : ∀ {j' : Nat} {b' : Addr}, (frP (some j) a)[j']? = some (some b') → b' = a := fun {j' b'} p1 => by
            have p1' : (List.replicate j none ++ [some a])[j']? = some (some b') := p1
            have := List.mem_of_getElem? p1'
            rcases List.mem_append.mp this with h | h
            · exact nomatch (List.eq_of_mem_replicate h)
            · injection List.mem_singleton.mp h
          obtain ⟨b', p1, e2⟩ := L'.io j _ q
          have hb : b' = a := pa p1
          have hb2 : b = b' := by rw [e1] at e2; injection e2 with z; injection z with z; injection z
          subst hb2; subst hb
          refine hq v B' H' cr (fun _ => w1) ?_
          have isO : OwS K B' H' ρ' σ' b := .mk q rfl e1 w1
          cases o with
          | ff => exact vo
          | tt =>
            obtain ⟨p, e, ow, g, no⟩ := vo
            refine ⟨p, e, ow, ?_⟩
            rcases g with g | g
            · obtain ⟨_, rfl⟩ := g
              exact absurd isO no
            · exact g
          | dp mk =>
            obtain ⟨S, t, nd, g⟩ := vo
            refine ⟨S, t, nd, fun p hp => ?_⟩
            rcases (g p hp).1 with h | h
            · obtain ⟨_, rfl⟩ := h
              exact absurd isO (g p hp).2
            · exact h
          | al =>
            obtain ⟨j', b', p1, rfl⟩ := vo
            rw [pa p1]; rfl
        | un => simp only [q] at hq
        | fz _ => simp only [q] at hq
        | ow _ => simp only [q] at hq
        | dp _ _ => simp only [q] at hq
  refine hbody cdv A outer s H E gd hr _ _ _ B H _ L ?_
  unfold runF at h
  cases q : fb (initE m N.length ds) with
  | ok fl ρ' =>
    rw [q] at h
    cases fl with
    | nx => exact fun σ' B' H' e' L' => done (v := .non) h L' (show Fz K B' V.non D.non from .non)
    | rt d o => exact fun v σ' B' H' e' L' vo => done h L' vo
    | bk => exact h.elim
    | ct => exact h.elim
  | rz c ρ' =>
    rw [q] at h
    exact fun σ' B' H' e' L' => h B' H' ⟨L'.ex, L'.exB, L'.kept, L'.hid, L'.there⟩
  | fail => rw [q] at h; exact h.elim
inductive AV where
  | v (d : D)
  | s (i : Nat)
inductive AOks (K : PySem.W.Frag) (B : Hp) (σ : St) : List V → List AV → Prop
  | nil : AOks K B σ [] []
  | v {x : V} {d : D} {xs : List V} {avs : List AV} : Fz K B x d → AOks K B σ xs avs → AOks K B σ (x :: xs) (.v d :: avs)
  | s {x : V} {i : Nat} {xs : List V} {avs : List AV} : σ[i]? = some (some x) → AOks K B σ xs avs → AOks K B σ (x :: xs) (.s i :: avs)
theorem AOks.mono {K : PySem.W.Frag} {B B' : Hp} {σ : St} (e : Ex B B') : ∀ {xs : List V} {avs : List AV}, AOks K B σ xs avs → AOks K B' σ xs avs
  | _, _, .nil => .nil
  | _, _, .v f r => .v (f.mono e) (AOks.mono e r)
  | _, _, .s f r => .s f (AOks.mono e r)
def EX (X : Cx) (W : WX) (es : List Expr) (f : M (List AV)) : Prop := ∀ (F : Fr) (ρ : Env) (σ : St) (B H : Hp) (Q : List V → Hp → Prop), Lv X.K F ρ σ B H →
  Post X W F σ B (f ρ) (fun avs _ B' H' => ∀ vs, AOks X.K B' σ vs avs → Q vs H') → wa X es σ H Q
def xNil : M (List AV) := M.pure []
def xV (f : M D) (g : M (List AV)) : M (List AV) := M.bind f fun x => M.bind g fun xs => M.pure (.v x :: xs)
def xS (i : Nat) (g : M (List AV)) : M (List AV) := M.bind (fun ρ => match ρ[i]? with
  | some (.ow _) => .ok () ρ
  | some (.io _) => .ok () ρ
  | _ => .fail) fun _ => M.bind g fun xs => M.pure (.s i :: xs)
section
variable {X : Cx} {W : WX} {e : Expr} {es : List Expr} {pos : Pos}
theorem ex_nil : EX X W [] xNil := fun F ρ σ B H Q L P => PA.wa pa_nil (P B H (Ex.refl _) L [] .nil)
theorem ex_v {f : M D} {g : M (List AV)} (ha : EV X W e f) (hr : EX X W es g) (hs : starEach (e :: es) X.env = (false, eval e X.env) :: starEach es X.env := by exact star_un rfl) : EX X W (e :: es) (xV f g) := by
  intro F ρ σ B H Q L P
  refine PA.wa (pa_cons pe_we pa_wa hs) ?_
  refine ha F ρ σ B H _ L ((Post.bind P).imp fun dx ρ1 B1 H1 e1 L1 P1 x fx => ?_)
  refine hr F ρ1 σ B1 H1 _ L1 ((Post.bind P1).imp fun ds ρ2 B2 H2 e2 L2 P2 xs fs => ?_)
  exact P2 B2 H2 (Ex.refl _) L2 _ (.v (fx.mono e2) fs)
theorem ex_s (i : Nat) {x : Str} {p : Pos} {g : M (List AV)} (hr : EX X W es g) (hN : X.N[i]? = some x := by rfl) (hv : Vis X.env.scope x := by first | exact Or.inl rfl | exact Or.inr (Or.inl rfl) | exact Or.inr (Or.inr rfl)) (hd : (x == ("__debug__" : Str)) = false := by decide)
    (hcd : (x == ("__classdict__" : Str)) = false := by decide) (hs : starEach (.Name x p :: es) X.env = (false, eval (.Name x p) X.env) :: starEach es X.env := by rfl) : EX X W (.Name x p :: es) (xS i g) := by
  intro F ρ σ B H Q L P
  refine PA.wa (pa_cons (pe_var hN hv hd hcd) pa_wa hs) ?_
  have P1 := Post.bind P
  have go : ∀ {v : V}, σ[i]? = some (some v) → Post X W F σ B ((M.bind g fun xs => M.pure (.s i :: xs)) ρ) (fun avs _ B' H' => ∀ vs, AOks X.K B' σ vs avs → Q vs H') → (tVar i σ H fun x H1 => wa X es σ H1 fun xs H2 => Q (x :: xs) H2) := by
    intro v ev P2
    refine ⟨v, ev, ?_⟩
    refine hr F ρ σ B H _ L ((Post.bind P2).imp fun ds ρ2 B2 H2 e2 L2 P2 xs fs => ?_)
    exact P2 B2 H2 (Ex.refl _) L2 _ (.s ev fs)
  cases q : ρ[i]? with
  | none => simp only [q] at P1; exact P1.elim
  | some sl =>
    cases sl with
    | ow d =>
      simp only [q] at P1
      obtain ⟨a, e1, _⟩ := L.ow i _ q rfl
      exact go e1 (P1 B H (Ex.refl _) L)
    | io d =>
      simp only [q] at P1
      obtain ⟨a, e1, _⟩ := L.ow i _ q rfl
      exact go e1 (P1 B H (Ex.refl _) L)
    | un => simp only [q] at P1; exact P1.elim
    | fz d => simp only [q] at P1; exact P1.elim
    | dp m d => simp only [q] at P1; exact P1.elim
def contS : Option Slot → Option D
  | some (.ow d) => some d
  | some (.io d) => some d
  | _ => none
def setup (ρ : Env) : Option Nat → List AV → Option (List D)
  | none, [] => some []
  | none, .v d :: r => (setup ρ none r).map (d :: ·)
  | some 0, .s i :: r => (contS ρ[i]?).bind fun d => (setup ρ none r).map (d :: ·)
  | some (j + 1), .v d :: r => (setup ρ (some j) r).map (d :: ·)
  | _, _ => none
def slotOf : Option Nat → List AV → Option Nat
  | some 0, .s i :: _ => some i
  | some (j + 1), _ :: r => slotOf (some j) r
  | _, _ => none
def reslot (s : Option Slot) (d : D) : Slot := match s with
  | some (.ow _) => .ow d
  | some (.io _) => .io d
  | _ => .un
def mCallF (m : Option Nat) (g : List D → Rf) (f : M (List AV)) : M (D × Ob) := M.bind f fun avs ρ => match setup ρ m avs with
  | none => .fail
  | some ds => match g ds with
    | .ok d o out => if o.ok = true then .ok (d, o) (match slotOf m avs with
      | none => ρ
      | some i => ρ.set i (reslot ρ[i]? out)) else .fail
    | .rz c => .rz c (match slotOf m avs with
      | none => ρ
      | some i => ρ.set i .un)
    | .fail => .fail
theorem setup_none {K : PySem.W.Frag} {B H : Hp} {σ : St} {ρ : Env} {a : Addr} : ∀ {vs : List V} {avs : List AV} {ds : List D}, AOks K B σ vs avs → setup ρ none avs = some ds → Args K B H a none vs ds
  | _, _, _, .nil, h => by injection h with h; subst h; exact .nil
  | _, _, _, .v f r, h => by
    have h' : (setup ρ none _).map (_ :: ·) = some _ := h
    cases q : setup ρ none _ with
    | none => rw [q] at h'; cases h'
    | some ds => rw [q] at h'; injection h' with h'; subst h'; exact .fz f (setup_none r q)
  | _, _, _, .s _ _, h => by cases (show (none : Option (List D)) = some _ from h)
theorem slotOf_none : ∀ (avs : List AV), slotOf none avs = none
  | [] => rfl
  | .v _ :: _ => rfl
  | .s _ :: _ => rfl
theorem setup_some {K : PySem.W.Frag} {F : Fr} {B H : Hp} {σ : St} {ρ : Env} (L : Lv K F ρ σ B H) : ∀ {j : Nat} {vs : List V} {avs : List AV} {ds : List D}, AOks K B σ vs avs → setup ρ (some j) avs = some ds →
    ∃ i s a, slotOf (some j) avs = some i ∧ ρ[i]? = some s ∧ flat s = true ∧ σ[i]? = some (some (.ref a)) ∧ Args K B H a (some j) vs ds
  | 0, _, _, _, .s (x := x) (i := i) f r, h => by
    have h' : (contS ρ[i]?).bind (fun d => (setup ρ none _).map (d :: ·)) = some _ := h
    cases q : contS ρ[i]? with
    | none => rw [q] at h'; cases h'
    | some d =>
      rw [q] at h'
      have h2 : (setup ρ none _).map (d :: ·) = some _ := h'
      cases q2 : setup ρ none _ with
      | none => rw [q2] at h2; cases h2
      | some ds =>
        rw [q2] at h2; injection h2 with h2; subst h2
        cases q3 : ρ[i]? with
        | none => rw [q3] at q; cases q
        | some s =>
          rw [q3] at q
          have ho : flat s = true ∧ s.dat = d := by
            cases s with
            | ow d' => injection q with q; exact ⟨rfl, q⟩
            | io d' => injection q with q; exact ⟨rfl, q⟩
            | un => cases q
            | fz d' => cases q
            | dp _ d' => cases q
          obtain ⟨a, e1, w, g⟩ := L.ow i s q3 ho.1
          rw [e1] at f
          injection f with f; injection f with f; subst f
          rw [ho.2] at w
          exact ⟨i, s, a, rfl, q3, ho.1, e1, .io w (setup_none r q2)⟩
  | j + 1, _, _, _, .v (d := d) f r, h => by
    have h' : (setup ρ (some j) _).map (d :: ·) = some _ := h
    cases q : setup ρ (some j) _ with
    | none => rw [q] at h'; cases h'
    | some ds =>
      rw [q] at h'; injection h' with h'; subst h'
      obtain ⟨i, s, a, h1, h2, h3, h4, h5⟩ := setup_some L r q
      exact ⟨i, s, a, h1, h2, h3, h4, .fzS f h5⟩
  | 0, _, _, _, .nil, h => by cases (show (none : Option (List D)) = some _ from h)
  | 0, _, _, _, .v _ _, h => by cases (show (none : Option (List D)) = some _ from h)
  | _ + 1, _, _, _, .nil, h => by cases (show (none : Option (List D)) = some _ from h)
  | _ + 1, _, _, _, .s _ _, h => by cases (show (none : Option (List D)) = some _ from h)
theorem call_sp {F : Fr} {ρ : Env} {σ : St} {B H : Hp} {Q : VK} {m : Option Nat} {g : List D → Rf} {n : Nat} {avs : List AV} {vs : List V} (L : Lv X.K F ρ σ B H) (fs : AOks X.K B σ vs avs) (hn : vs.length = n)
    (P : Post X W F σ B ((match setup ρ m avs with
      | none => Rs.fail
      | some ds => match g ds with
        | .ok d o out => if o.ok = true then .ok (d, o) (match slotOf m avs with | none => ρ | some i => ρ.set i (reslot ρ[i]? out)) else .fail
        | .rz c => .rz c (match slotOf m avs with | none => ρ | some i => ρ.set i .un)
        | .fail => .fail) : Rs (D × Ob)) (fun p ρ' B' H' => ∀ v, VO X.K F ρ' σ B' H' v p.1 p.2 → Q v H')) : spF X.K X.mg n m g vs H Q (WE W σ) := by
  cases q : setup ρ m avs with
  | none => rw [q] at P; exact P.elim
  | some ds =>
    rw [q] at P
    cases m with
    | none =>
      rw [slotOf_none] at P
      refine ⟨B, ds, 0, L.ex, setup_none fs q, hn, ?_⟩
      have hA : ∀ b, ioA none 0 b → F.A b ∨ F.H0 b = none := fun b z => absurd rfl z.1
      have hO : ∀ b, ioA none 0 b → ¬ OwS X.K B H ρ σ b := fun b z => absurd rfl z.1
      cases q2 : g ds with
      | ok d o out =>
        simp only [q2] at P ⊢
        intro v B' H' cr _ rv
        have L' := L.callN cr hA hO
        have no : ∀ {p : Addr}, H p = none → ¬ OwS X.K B' H' ρ σ p := fun {p} n0 z => (L.hidOw (z.back L cr.exB (cr.keeps L hO))).2.ne n0
        split at P
        · rename_i ok
          refine P B' H' cr.exB L' v ?_
          cases o with
          | ff => exact rv
          | tt =>
            obtain ⟨p, e, w, n0⟩ := rv
            exact ⟨p, e, w, .inr (L.free n0), no n0⟩
          | dp mk =>
            obtain ⟨S, t, nd, n0⟩ := rv
            exact ⟨S, t, nd, fun p hp => ⟨.inr (L.free (n0 p hp)), no (n0 p hp)⟩⟩
          | al => cases ok
        · exact P.elim
      | rz c =>
        simp only [q2] at P ⊢
        exact fun B' H' cr => P B' H' cr.exB (L.callN cr hA hO)
      | fail => simp only [q2] at P; exact P.elim
    | some j =>
      obtain ⟨i, s, a, hsl, hs, ho, hsig, ar⟩ := setup_some L fs q
      rw [hsl] at P
      refine ⟨B, ds, a, L.ex, ar, hn, ?_⟩
      obtain ⟨v0, S0, q', f0, g0, no0, L1⟩ := L.take hs (flat_owned ho)
      rw [hsig] at q'; injection q' with q'; injection q' with q'; subst q'
      obtain ⟨w0, rfl⟩ := f0.one ho
      have g0 := g0 a (by simp)
      have na := no0 a (by simp)
      have hA : ∀ b, ioA (some j) a b → F.A b ∨ F.H0 b = none := fun b z => by rw [z.2]; exact g0
      have hO : ∀ b, ioA (some j) a b → ¬ OwS X.K B H (ρ.set i .un) σ b := fun b z => by rw [z.2]; exact na
      cases q2 : g ds with
      | ok d o out =>
        simp only [q2] at P ⊢
        intro v B' H' cr wo rv
        have L2 := L1.callN cr hA hO
        have bk : ∀ {p : Addr}, OwS X.K B' H' (ρ.set i .un) σ p → OwS X.K B H (ρ.set i .un) σ p := fun {p} z => z.back L1 cr.exB (cr.keeps L1 hO)
        have ht : flat (reslot ρ[i]? out) = true ∧ (reslot ρ[i]? out).dat = out := by
          rw [hs]
          cases s with
          | ow d' => exact ⟨rfl, rfl⟩
          | io d' => exact ⟨rfl, rfl⟩
          | un => cases ho
          | fz d' => cases ho
          | dp _ d' => cases ho
        have L3 := L2.own (i := i) (t := reslot ρ[i]? out) (v := .ref a) (S := [a]) hsig (.mk (by rw [ht.2]; exact wo (by simp)) ht.1) (by simpa using g0) (fun b hb h => by
              rw [List.set_set] at h
              rw [List.mem_singleton.mp hb] at h
              exact na (bk h)) (fun d' z => by
            rw [hs] at z
            cases s with
            | ow d' => cases z
            | io d'' =>
              obtain ⟨b, p1, p2⟩ := L.io i d'' hs
              rw [hsig] at p2
              obtain rfl : a = b := by injection p2 with z; injection z with z; injection z
              exact ⟨a, rfl, p1⟩
            | un => cases ho
            | fz d' => cases ho
            | dp _ d' => cases ho)
        rw [List.set_set] at L3
        have no : ∀ {p : Addr}, H p = none → ¬ OwS X.K B' H' (ρ.set i (reslot ρ[i]? out)) σ p := fun {p} n0 ⟨j', s', v', S', e1, q1, f1, m1⟩ => by
          rcases get_set e1 with ⟨rfl, z, l⟩ | ⟨n, e1⟩
          · rw [hsig] at q1; injection q1 with q1; injection q1 with q1; subst q1
            rw [z] at f1
            obtain ⟨_, rfl⟩ := f1.one ht.1
            rw [List.mem_singleton.mp m1] at n0
            exact w0.there.ne n0
          · exact (L1.hidOw (bk ⟨j', s', v', S', by rw [List.getElem?_set_ne (Ne.symm n)]; exact e1, q1, f1, m1⟩)).2.ne n0
        split at P
        · rename_i ok
          refine P B' H' cr.exB L3 v ?_
          cases o with
          | ff => exact rv
          | tt =>
            obtain ⟨p, e, w, n0⟩ := rv
            exact ⟨p, e, w, .inr (L.free n0), no n0⟩
          | dp mk =>
            obtain ⟨S, t, nd, n0⟩ := rv
            exact ⟨S, t, nd, fun p hp => ⟨.inr (L.free (n0 p hp)), no (n0 p hp)⟩⟩
          | al => cases ok
        · exact P.elim
      | rz c =>
        simp only [q2] at P ⊢
        exact fun B' H' cr => P B' H' cr.exB (L1.callN cr hA hO)
      | fail => simp only [q2] at P; exact P.elim
theorem aoks_len {K : PySem.W.Frag} {B : Hp} {σ : St} : ∀ {vs : List V} {avs : List AV}, AOks K B σ vs avs → vs.length = avs.length
  | _, _, .nil => rfl
  | _, _, .v _ r => by rw [List.length_cons, List.length_cons, aoks_len r]
  | _, _, .s _ r => by rw [List.length_cons, List.length_cons, aoks_len r]
def mCallN (n : Nat) (m : Option Nat) (g : List D → Rf) (f : M (List AV)) : M (D × Ob) := mCallF m g (M.bind f fun avs => M.opt (if avs.length = n then some avs else none))
theorem eo_call {x : Str} {k n : Nat} {f : Addr} {fd : FuncData} {ps : List Str} {m : Option Nat} {g : List D → Rf} {p : Pos} {fa : M (List AV)} (G : FnG X.prog X.w X.K X.mg X.base k f fd ps (spF X.K X.mg n m g)) (gd : Quiet X.prog X.base X.A) (hr : Room k X.A) (tk : Takes X W)
    (hm : X.mg x = some (.ref f)) (hk : PySem.W.keepIn X.K (.ref f) = true) (hb : Binds X.K fd ps []) (ha : EX X W (e :: es) fa) (hg : Gl X x := by rfl) (hdb : (x == ("__debug__" : Str)) = false := by decide)
    (he : starEach (e :: es) X.env = (false, eval e X.env) :: starEach es X.env := by exact star_un rfl) (hpl : (backTo pos (starEach es X.env)).any (·.1) = false := by rfl) : EO X W (.Call (.Name x p) (e :: es) [] pos) (mCallN n m g fa) := by
  intro F ρ σ B H Q L P
  refine PE.we (pe_callG G gd hr hg hm hk hb (fun σ => passAt tk σ) pa_wa hdb he hpl) ?_
  have P0 := Post.bind P
  refine ha F ρ σ B H _ L ((Post.bind P0).imp fun avs ρ1 B1 H1 e1 L1 P1 vs fs => ?_)
  obtain ⟨avs', h1, h2⟩ := P1.opt
  split at h1
  · rename_i hl
    injection h1 with h1; subst h1
    exact call_sp L1 fs (by rw [aoks_len fs]; exact hl) (h2 B1 H1 (Ex.refl _) L1)
  · cases h1
end
end Dt
namespace Dt
open PySem PySem.Spec PyProof.Rows L2
section
variable {X : Cx} {W : WX} {e a b c : Expr} {pos : Pos} {K : PySem.W.Frag}
def dAbs : List D → Option D
  | [.int i] => some (.int (if i < 0 then -i else i))
  | _ => none
theorem cd_abs : CallD K (fun xs H Q => ∃ i, xs = [.int i] ∧ Q (.int (if i < 0 then -i else i)) H) dAbs := by
  intro xs ds d B H Q ex fs h g
  unfold dAbs at h
  split at h
  · cases fs with
    | cons f fs => cases fs; cases f; injection h with h; subst h; exact ⟨_, rfl, g.1 _ (.int _)⟩
  · cases h
def dLen : List D → Option D
  | [.lst xs] => some (.int xs.length)
  | [.tup xs] => some (.int xs.length)
  | [.scr xs] => some (.int xs.length)
  | [.str x] => if tooLong x.length = true then none else some (.int x.length)
  | _ => none
theorem cd_len : CallD K (fun xs H Q => ∃ x n, xs = [x] ∧ LenV K x H n ∧ Q (.int n) H) dLen := by
  intro xs ds d B H Q ex fs h g
  unfold dLen at h
  split at h
  · cases fs with
    | cons f fs =>
      cases fs
      cases f with
      | @lst l xs ds hl fs =>
        injection h with h; subst h
        exact ⟨_, xs.length, rfl, .inl ⟨xs, .inl (.inl (ex _ _ hl)), rfl⟩, by rw [fs.len]; exact g.1 _ (.int _)⟩
  · cases fs with
    | cons f fs =>
      cases fs
      cases f with
      | @tup l xs ds hl fs =>
        injection h with h; subst h
        exact ⟨_, xs.length, rfl, .inr ⟨xs, ex.st hl, rfl⟩, by rw [fs.len]; exact g.1 _ (.int _)⟩
  · cases fs with
    | cons f fs =>
      cases fs
      cases f with
      | @scr l ns hl =>
        injection h with h; subst h
        exact ⟨_, (List.map V.int _).length, rfl, .inl ⟨_, ex.sl hl, rfl⟩, by rw [List.length_map]; exact g.1 _ (.int _)⟩
  · cases fs with
    | cons f fs =>
      cases fs
      cases f
      split at h
      · cases h
      · rename_i hz
        injection h with h; subst h
        exact ⟨_, _, rfl, ⟨notLong hz, rfl⟩, g.1 _ (.int _)⟩
  · cases h
variable {es : List Expr} {p : Pos} {fa : M (List D)} {f1 : M D}
theorem ev_abs (hm : X.mg "abs" = none) (ha : EA X W [a] fa) (hg : Gl X "abs" := by rfl) (he : starEach (a :: []) X.env = (false, eval a X.env) :: starEach [] X.env := by rfl) : EV X W (.Call (.Name "abs" p) [a] [] pos) (mCall dAbs fa) := ev_callB call_abs cd_abs hg hm (by decide +kernel) ha (by decide) (by decide) he
theorem ev_len (hm : X.mg "len" = none) (ha : EA X W [a] fa) (hg : Gl X "len" := by rfl) (he : starEach (a :: []) X.env = (false, eval a X.env) :: starEach [] X.env := by rfl) : EV X W (.Call (.Name "len" p) [a] [] pos) (mCall dLen fa) := ev_callB call_len cd_len hg hm PySem.boot_len ha (by decide) (by decide) he
def tyD : D → String
  | .non => "NoneType"
  | .bl _ => "bool"
  | .int _ => "int"
  | .str _ => "str"
  | .lst _ => "list"
  | .tup _ => "tuple"
  | .scr _ => "list"
  | .dic _ _ => "dict"
  | .dct _ _ => "dict"
  | .obj _ => "object"
  | .key _ => "tuple"
def isO : D → Bool
  | .obj _ => true
  | .dct _ _ => true
  | _ => false
theorem Fz.ty {B H : Hp} {v : V} {d : D} (ex : Ex B H) (h : Fz K B v d) (n : isO d = false) : TyX K H v (.type (tyD d)) := by
  cases h with
  | non => exact .base .non
  | bl b => exact .base (.bl b)
  | int i => exact .base (.int i)
  | str x => exact .base (.str x)
  | lst h _ => exact .base (.lst (ex _ _ h))
  | tup h _ =>
    rcases h with (h | ⟨o, h⟩) | ⟨o, its, n, h, hc, _⟩
    · exact .base (.tup (ex _ _ h))
    · exact .fTuple (ex _ _ h)
    · exact .kTuple h hc
  | scr h =>
    rcases h with (h | ⟨o, h⟩) | ⟨o, its, n, h, hc, _⟩
    · exact .base (.lst (ex _ _ h))
    · exact .base (.frz (ex _ _ h))
    · exact .kList h hc
  | dic h _ _ => exact .base (.dK (ex _ _ h))
  | dct h _ _ => cases n
  | obj a => cases n
  | key h => exact .base (.tup (ex _ _ h))
def dIsi (T : String) (d : D) : Option D := cond (isO d) none ((kitB (tyD d) T).map D.bl)
def mIsi (T : String) (f : M D) : M D := M.bind f fun d => M.opt (dIsi T d)
theorem ev_isi {T : Str} {Tn : String} {p2 : Pos} (hm : X.mg "isinstance" = none) (hmT : X.mg T = none) (ha : EV X W a f1) (hvT : bootBuiltins T = some (.type Tn)) (hg : Gl X "isinstance" := by rfl) (hgT : Gl X T := by rfl) (hn : T ≠ "__name__" := by decide) (hd : (T == ("__debug__" : Str)) = false := by decide)
    (he : starEach (a :: [.Name T p2]) X.env = (false, eval a X.env) :: starEach [.Name T p2] X.env := by rfl) (he2 : starEach (.Name T p2 :: []) X.env = (false, eval (.Name T p2) X.env) :: starEach [] X.env := by rfl) (hpl : (backTo pos (starEach [.Name T p2] X.env)).any (·.1) = false := by rfl) : EV X W (.Call (.Name "isinstance" p) [a, .Name T p2] [] pos) (mIsi Tn f1) := by
  intro F ρ σ B H Q L P
  have pT : PE X (.Name T p2) (tC (.ty Tn)) := pe_bltn hgT hmT hvT rfl hn hd
  refine PE.we (pe_callB call_isi hg hm (by decide +kernel) (pa_cons pe_we (pa_cons pT pa_nil he2) he) (by decide) (by decide) he hpl) ?_
  refine ha F ρ σ B H _ L ((Post.bind P).imp fun d ρ1 B1 H1 e1 L1 P1 v fv => ?_)
  obtain ⟨z, hz, k⟩ := P1.opt
  unfold dIsi at hz
  cases qo : isO d with
  | true => rw [qo] at hz; cases hz
  | false =>
  rw [qo] at hz
  dsimp only [cond_false] at hz
  cases q : kitB (tyD d) Tn with
  | none => rw [q] at hz; cases hz
  | some r =>
    rw [q] at hz
    injection hz with hz; subst hz
    exact ⟨v, .ty Tn, .type (tyD d), .type Tn, r, rfl, .ty Tn, fv.ty L1.ex qo, kit_ty q, k B1 H1 (Ex.refl _) L1 _ (.bl r)⟩
def chk (i : Nat) : M Unit := fun ρ => match ρ[i]? with
  | some (.ow _) => .ok () ρ
  | some (.io _) => .ok () ρ
  | some (.fz _) => .ok () ρ
  | _ => .fail
theorem Lv.chk {α : Type} {F : Fr} {ρ : Env} {σ : St} {B H : Hp} {i : Nat} (L : Lv K F ρ σ B H) (h : Dt.chk i ρ ≠ .fail) : Dt.chk i ρ = .ok () ρ ∧ ∃ v, σ[i]? = some (some v) := by
  unfold Dt.chk at h ⊢
  split at h
  · rename_i d q
    obtain ⟨a, e1, _⟩ := L.ow i _ q rfl
    exact ⟨by simp only [q], _, e1⟩
  · rename_i d q
    obtain ⟨a, e1, _⟩ := L.ow i _ q rfl
    exact ⟨by simp only [q], _, e1⟩
  · rename_i d q
    obtain ⟨v, e1, _⟩ := L.fz i _ q
    exact ⟨by simp only [q], _, e1⟩
  · exact absurd rfl h
def mPutAt (i : Nat) (fe fk : M D) : M Fl := M.bind fe fun d => M.bind (chk i) fun _ => M.bind fk fun k ρ => match ρ[i]?, k with
  | some (.ow (.lst ds)), .int z => match ixN ds.length z with
    | some j => .ok .nx (ρ.set i (.ow (.lst (ds.set j d))))
    | none => .fail
  | some (.io (.lst ds)), .int z => match ixN ds.length z with
    | some j => .ok .nx (ρ.set i (.io (.lst (ds.set j d))))
    | none => .fail
  | _, _ => .fail
theorem Lv.setAt {F : Fr} {ρ : Env} {σ : St} {B H : Hp} {i : Nat} {s : Slot} {ds ds' : List D} (L : Lv K F ρ σ B H) (e : ρ[i]? = some s) (ho : flat s = true) (hd : s.dat = .lst ds) :
    ∃ a vs, σ[i]? = some (some (V.ref a)) ∧ H a = some (.lst vs) ∧ Fzs K B vs ds ∧ ∀ vs' ds', Fzs K B vs' ds' → Lv K F (ρ.set i (reslot ρ[i]? (.lst ds'))) σ B (upd H a (.lst vs')) := by
  obtain ⟨a, e1, w, g⟩ := L.ow i s e ho
  rw [hd] at w
  obtain ⟨n, vs, h1, fs⟩ := w
  refine ⟨a, vs, e1, h1, fs, fun vs' ds' fs' => ?_⟩
  refine L.write e ho e1 ?_ ?_
  · rw [e]
    cases s with
    | ow d => exact .inl ⟨d, rfl, _, rfl⟩
    | io d => exact .inr ⟨d, rfl, _, rfl⟩
    | un => cases ho
    | fz d => cases ho
    | dp _ d => cases ho
  · rw [e]
    cases s with
    | ow d => exact ⟨n, vs', upd_same, fs'⟩
    | io d => exact ⟨n, vs', upd_same, fs'⟩
    | un => cases ho
    | fz d => cases ho
    | dp _ d => cases ho
theorem sv_putAt {i : Nat} {x : Str} {kx : Expr} {px pt : Pos} {fe fk : M D} (he : EV X W e fe) (hk : EV X W kx fk) (hN : X.N[i]? = some x := by rfl) (hv : Vis X.env.scope x := by first | exact Or.inl rfl | exact Or.inr (Or.inl rfl) | exact Or.inr (Or.inr rfl)) (hd : (x == ("__debug__" : Str)) = false := by decide)
    (hcd : (x == ("__classdict__" : Str)) = false := by decide)
    (ha : ∀ v, assign (.Subscript (.Name x px) kx pt) X.env v = (do
      let ov ← holding [v] (eval (.Name x px) X.env)
      let iv ← holding [v, ov] (eval kx X.env)
      standAt pt
      holding [v, ov, iv] (setItem ov iv v)
      release [v, ov, iv] []) := by intro _; rfl)
    (hs : swapsWithSole [.Subscript (.Name x px) kx pt] e pos.line X.env = pure false := by rfl) (hw : swappedStores [.Subscript (.Name x px) kx pt] e X.env = pure none := by rfl)
    (h1 : (assignEach [.Subscript (.Name x px) kx pt] X.env).map (·.2) = [assign (.Subscript (.Name x px) kx pt) X.env] := by rfl) : SV X W (.Assign [.Subscript (.Name x px) kx pt] e pos) (mPutAt i fe fk) := by
  intro F ρ σ B H N L P
  refine PS.ws (ps_asg pe_we (pg_sub (pe_var hN hv hd hcd) pe_we set_list ha) hs hw h1) ?_
  refine he F ρ σ B H _ L ((PostS.bind P).imp fun d ρ1 B1 H1 e1 L1 P1 v fv => ?_)
  have P1' : PostS X W F B1 ((M.bind (chk i) fun _ => M.bind fk fun k ρ => match ρ[i]?, k with
    | some (.ow (.lst ds)), .int z => match ixN ds.length z with
      | some j => .ok .nx (ρ.set i (.ow (.lst (ds.set j d))))
      | none => .fail
    | some (.io (.lst ds)), .int z => match ixN ds.length z with
      | some j => .ok .nx (ρ.set i (.io (.lst (ds.set j d))))
      | none => .fail
    | _, _ => Rs.fail) ρ1) N := P1
  have hne : chk i ρ1 ≠ .fail := fun z => by unfold M.bind at P1'; simp only [z] at P1'; exact P1'.elim
  obtain ⟨hck, vo0, ev0⟩ := L1.chk (α := Unit) hne
  unfold M.bind at P1'
  simp only [hck] at P1'
  have P2 := PostS.bind (σ := σ) P1'
  have go : ∀ (vo : V), σ[i]? = some (some vo) → tVar i σ H1 fun o H1' => we X kx σ H1' fun k H2 => rSetL o k v H2 fun H3 => N.nx σ H3 := by
    intro vo ev
    refine ⟨vo, ev, hk F ρ1 σ B1 H1 _ L1 (P2.imp fun k ρ2 B2 H2 e2 L2 P3 u fu => ?_)⟩
    cases q : ρ2[i]? with
    | none => simp only [q] at P3; exact P3.elim
    | some s =>
      have fin : ∀ {ds : List D} {z : Int} {j : Nat}, flat s = true → s.dat = .lst ds → k = .int z → ixN ds.length z = some j → PostS X W F B2 (.ok .nx (ρ2.set i (reslot ρ2[i]? (.lst (ds.set j d))))) N → rSetL vo u v H2 fun H3 => N.nx σ H3 := by
        intro ds z j ho hdat hk hj P4
        subst hk
        cases fu
        obtain ⟨a, vs, h1, h2, fs, st⟩ := L2.setAt (ds' := ds) q ho hdat
        rw [ev] at h1
        injection h1 with h1; injection h1 with h1; subst h1
        exact ⟨a, vs, z, j, rfl, rfl, h2, by rw [fs.len]; exact hj, P4 σ B2 _ (Ex.refl _) (st _ _ (fs.set j (fv.mono e2)))⟩
      cases s with
      | ow dd =>
        cases dd with
        | lst ds =>
          cases k with
          | int z =>
            simp only [q] at P3
            cases hj : ixN ds.length z with
            | none => simp only [hj] at P3; exact P3.elim
            | some j => simp only [hj] at P3; exact fin rfl rfl rfl hj (by rw [q]; exact P3)
          | _ => simp only [q] at P3; exact P3.elim
        | _ => simp only [q] at P3; exact P3.elim
      | io dd =>
        cases dd with
        | lst ds =>
          cases k with
          | int z =>
            simp only [q] at P3
            cases hj : ixN ds.length z with
            | none => simp only [hj] at P3; exact P3.elim
            | some j => simp only [hj] at P3; exact fin rfl rfl rfl hj (by rw [q]; exact P3)
          | _ => simp only [q] at P3; exact P3.elim
        | _ => simp only [q] at P3; exact P3.elim
      | un => simp only [q] at P3; exact P3.elim
      | fz _ => simp only [q] at P3; exact P3.elim
      | dp _ _ => simp only [q] at P3; exact P3.elim
  exact go vo0 ev0
def contR : Option Slot → Option D
  | some (.ow d) => some d
  | some (.io d) => some d
  | some (.fz d) => some d
  | _ => none
theorem Lv.cont {F : Fr} {ρ : Env} {σ : St} {B H : Hp} {i : Nat} {d : D} {v : V} (L : Lv K F ρ σ B H) (h : contR ρ[i]? = some d) (ev : σ[i]? = some (some v)) : ∃ B2, Ex B B2 ∧ Ex B2 H ∧ Fz K B2 v d ∧ (∀ ds, d = .lst ds → ∃ a vs, v = .ref a ∧ H a = some (.lst vs) ∧ Fzs K B vs ds) := by
  have own : ∀ {s : Slot}, ρ[i]? = some s → flat s = true → s.dat = d → ∃ B2, Ex B B2 ∧ Ex B2 H ∧ Fz K B2 v d ∧ (∀ ds, d = .lst ds → ∃ a vs, v = .ref a ∧ H a = some (.lst vs) ∧ Fzs K B vs ds) := by
    intro s q ho hd
    obtain ⟨a, e1, w, g⟩ := L.ow i s q ho
    rw [ev] at e1; injection e1 with e1; injection e1 with e1; subst e1
    rw [hd] at w
    obtain ⟨o, h1, h2⟩ := w.fz
    refine ⟨_, Ex.new w.hid, fun b u q => ?_, h2, fun ds z => ?_⟩
    · by_cases hb : b = a
      · subst hb; rw [upd_same] at q; rw [h1]; exact q
      · rw [upd_ne hb] at q; exact L.ex b u q
    · subst z
      obtain ⟨_, vs, h3, fs⟩ := w
      exact ⟨a, vs, rfl, h3, fs⟩
  cases q : ρ[i]? with
  | none => rw [q] at h; cases h
  | some s =>
    rw [q] at h
    cases s with
    | un => cases h
    | dp _ _ => cases h
    | ow d' => injection h with h; exact own q rfl h
    | io d' => injection h with h; exact own q rfl h
    | fz d' =>
      injection h with h; subst h
      obtain ⟨v', e1, f⟩ := L.fz i _ q
      rw [ev] at e1; injection e1 with e1; injection e1 with e1; subst e1
      refine ⟨B, Ex.refl _, L.ex, f, fun ds z => ?_⟩
      subst z
      cases f with
      | lst h1 fs => exact ⟨_, _, rfl, L.ex _ _ h1, fs⟩
def dIxL : D → D → Option D
  | .lst ds, .int i => L2.atI ds i
  | _, _ => none
def mPeek (i : Nat) (fk : M D) : M D := M.bind (chk i) fun _ => M.bind fk fun k ρ => match (contR ρ[i]?).bind fun d => dIxL d k with
  | some z => .ok z ρ
  | none => .fail
theorem ev_peek {i : Nat} {x : Str} {kx : Expr} {px : Pos} {fk : M D} (hk : EV X W kx fk) (hN : X.N[i]? = some x := by rfl) (hv : Vis X.env.scope x := by first | exact Or.inl rfl | exact Or.inr (Or.inl rfl) | exact Or.inr (Or.inr rfl)) (hd : (x == ("__debug__" : Str)) = false := by decide)
    (hcd : (x == ("__classdict__" : Str)) = false := by decide) (hs : PlainIx kx := by exact fun _ _ => rfl) : EV X W (.Subscript (.Name x px) kx pos) (mPeek i fk) := by
  intro F ρ σ B H Q L P
  refine PE.we (pe_ix ix_list (pe_var hN hv hd hcd) pe_we hs) ?_
  have P0 : Post X W F σ B ((M.bind (chk i) fun _ => M.bind fk fun k ρ => match (contR ρ[i]?).bind fun d => dIxL d k with
    | some z => .ok z ρ
    | none => Rs.fail) ρ) (fun d _ B' H' => ∀ v, Fz X.K B' v d → Q v H') := P
  have hne : chk i ρ ≠ .fail := fun z => by unfold M.bind at P0; simp only [z] at P0; exact P0.elim
  obtain ⟨hck, vo, ev⟩ := L.chk (α := Unit) hne
  unfold M.bind at P0
  simp only [hck] at P0
  refine ⟨vo, ev, hk F ρ σ B H _ L ((Post.bind P0).imp fun k ρ2 B2 H2 e2 L2 P3 u fu => ?_)⟩
  cases q : contR ρ2[i]? with
  | none => simp only [q, Option.bind_none] at P3; exact P3.elim
  | some d =>
    simp only [q, Option.bind_some] at P3
    cases q2 : dIxL d k with
    | none => simp only [q2] at P3; exact P3.elim
    | some z =>
      simp only [q2] at P3
      obtain ⟨B3, _, _, _, hl⟩ := L2.cont q ev
      unfold dIxL at q2
      split at q2
      · obtain ⟨a, vs, rfl, h1, fs⟩ := hl _ rfl
        cases fu
        obtain ⟨v, h3, h4⟩ := fs.atI q2
        exact ⟨a, vs, _, v, rfl, rfl, .inl (.inl h1), h3, P3 B2 H2 (Ex.refl _) L2 v h4⟩
      · cases q2
def scalD : D → Bool
  | .non => true
  | .bl _ => true
  | .int _ => true
  | .str _ => true
  | _ => false
def mBinL (g : D → D → Option D) (i : Nat) (f2 : M D) : M D := M.bind (chk i) fun _ => M.bind f2 fun y ρ => match (contR ρ[i]?).bind fun d => g d y with
  | some z => if scalD z = true then .ok z ρ else .fail
  | none => .fail
def mLenL (i : Nat) : M D := M.bind (chk i) fun _ ρ => match (contR ρ[i]?).bind fun d => dLen [d] with
  | some z => .ok z ρ
  | none => .fail
theorem lt_line {n : Nat} (h : n < 10000) : n < sizeLine := Nat.lt_of_lt_of_le h (by decide)
end
end Dt
namespace Dt
open PySem PySem.Spec PyProof.Rows L2
abbrev veTail : List Value := [.type "ValueError", .type "Exception", .type "BaseException", .type "object"]
def ExC (K : PySem.W.Frag) (mg : Str → Option Value) (x : Str) : Prop := ∃ C, mg x = some (.ref C) ∧ PySem.W.excIn K C veTail "ValueError.__new__" = true ∧ PySem.W.keepIn K (.ref C) = true ∧
  PySem.W.subIn K (.ref C) (.type "BaseException") = some true ∧ PySem.W.typeIn K (.ref C) = some (.type "type")
theorem sv_raise {X : Cx} {W : WX} {x m : Str} {j : Nat} {p p2 p3 pos : Pos} (hc : X.calm = true) (tk : Takes X W) (T : ExC X.K X.mg x) (hg : Gl X x := by rfl) (hdb : (x == ("__debug__" : Str)) = false := by decide) :
    SV X W (.Raise (some (.Call (.Name x p) [.Constant (.str m) j p2] [] p3)) none pos) (M.raise x) := by
  obtain ⟨C, gC, xC, kC, bC, tC⟩ := T
  intro F ρ σ B H N L P
  refine PS.ws (ps_raise hc tk (pmk_own PySem.F.excBase_ValueError xC gC kC (raises_own bC tC) hg hdb)) ?_
  have h := P σ B H (Ex.refl _) L
  unfold cv at h
  rw [gC] at h
  exact h
def FnIn (K : PySem.W.Frag) (mg : Str → Option Value) (x : Str) (st : Stmt) : Prop := ∃ f fd, Fun K x x st f fd ∧ mg x = some (.ref f)
def Ok (P : Program) (w : World) (K : PySem.W.Frag) (mg : Str → Option Value) (base : Heap) (x : Str) (k n : Nat) (m : Option Nat) (g : List D → Rf) : Prop :=
  ∃ f fd ps, mg x = some (.ref f) ∧ PySem.W.keepIn K (.ref f) = true ∧ Binds K fd ps [] ∧ FnG P w K mg base k f fd ps (spF K mg n m g)
theorem ok_mk {P : Program} {w : World} {K : PySem.W.Frag} {mg : Str → Option Value} {base : Heap} {x : Str} {st : Stmt} {N ps : List Str} {k : Nat} {m : Option Nat} {fb : M Fl} (T : FnIn K mg x st) (S : FnScope N ps (defScope st)) (hps : ps.length ≤ N.length)
    (hb : ∀ (kV doc pm : Value) (an : Option Addr) (cdv ct : Value) (us : List Value), us.length = ps.length → bindArgs (PySem.W.fnOf x x (defArgs st) (defBody st) (defScope st) .none kV doc pm an cdv ct) ⟨us, []⟩ = pure (ps.zip us))
    (hbody : ∀ (f : Addr) (cdv : Value) (A : Around) (outer : List PySem.Env) (s : Shared) (H : Hp) (E : XK), Quiet P base (A.deeper (envOfC x (defScope st) s.heap.objs.size f cdv)) → Room k (A.deeper (envOfC x (defScope st) s.heap.objs.size f cdv)) →
      Takes (cxOf (L2.CX P w) P w K mg base N x (defScope st) f cdv A outer s H E) (fun cls d _ H => E cls d H) →
      PassesOwn (model P w) (A.deeper (envOfC x (defScope st) s.heap.objs.size f cdv)) (envOfC x (defScope st) s.heap.objs.size f cdv) (cxOf (L2.CX P w) P w K mg base N x (defScope st) f cdv A outer s H E).xe →
      SVs (cxOf (L2.CX P w) P w K mg base N x (defScope st) f cdv A outer s H E) (fun cls d _ H => E cls d H) (defBody st) fb) : Ok P w K mg base x (k + 1) ps.length m (runF m N.length fb) := by
  obtain ⟨f, fd, F, hm⟩ := T
  exact ⟨f, fd, ps, hm, F.kp, F.binds hb, fn_def F S hps fun cdv A outer s H E gd hr => hbody f cdv A outer s H E gd hr (takes_of rfl rfl rfl rfl) (passes_of rfl)⟩
theorem ok_at {P : Program} {w : World} {K : PySem.W.Frag} {mg : Str → Option Value} {base : Heap} {x : Str} {st : Stmt} {N ps : List Str} {k : Nat} {m : Option Nat} {fb : M Fl} {f : Addr} {fd : FuncData} (F : Fun K x x st f fd) (S : FnScope N ps (defScope st)) (hps : ps.length ≤ N.length)
    (hbody : ∀ (f : Addr) (cdv : Value) (A : Around) (outer : List PySem.Env) (s : Shared) (H : Hp) (E : XK), Quiet P base (A.deeper (envOfC x (defScope st) s.heap.objs.size f cdv)) → Room k (A.deeper (envOfC x (defScope st) s.heap.objs.size f cdv)) →
      Takes (cxOf (L2.CX P w) P w K mg base N x (defScope st) f cdv A outer s H E) (fun cls d _ H => E cls d H) →
      PassesOwn (model P w) (A.deeper (envOfC x (defScope st) s.heap.objs.size f cdv)) (envOfC x (defScope st) s.heap.objs.size f cdv) (cxOf (L2.CX P w) P w K mg base N x (defScope st) f cdv A outer s H E).xe →
      SVs (cxOf (L2.CX P w) P w K mg base N x (defScope st) f cdv A outer s H E) (fun cls d _ H => E cls d H) (defBody st) fb) : FnG P w K mg base (k + 1) f fd ps (spF K mg ps.length m (runF m N.length fb)) :=
  fn_def F S hps fun cdv A outer s H E gd hr => hbody f cdv A outer s H E gd hr (takes_of rfl rfl rfl rfl) (passes_of rfl)
theorem eo_fn {X : Cx} {W : WX} {x : Str} {k j n : Nat} {m : Option Nat} {g : List D → Rf} {e : Expr} {es : List Expr} {p pos : Pos} {fa : M (List AV)} (G : Ok X.prog X.w X.K X.mg X.base x k n m g) (gd : Quiet X.prog X.base X.A) (hr : Room j X.A) (tk : Takes X W) (ha : EX X W (e :: es) fa) (hk : k ≤ j := by decide) (hg : Gl X x := by rfl) (hdb : (x == ("__debug__" : Str)) = false := by decide)
    (he : starEach (e :: es) X.env = (false, eval e X.env) :: starEach es X.env := by exact star_un rfl) (hpl : (backTo pos (starEach es X.env)).any (·.1) = false := by rfl) : EO X W (.Call (.Name x p) (e :: es) [] pos) (mCallN n m g fa) := by
  obtain ⟨f, fd, ps, hm, kp, hb, G⟩ := G
  exact eo_call G gd (hr.mono hk) tk hm kp hb ha hg hdb he hpl
def spL (K : PySem.W.Frag) (n : Nat) : Sp := fun vs H Q _ => ∃ (a : Addr) (ns : List Int), vs = [.ref a] ∧ SqL K H a (ns.map V.int) ∧ ns.length ≤ n ∧ (∀ z ∈ ns, Builtin.Int.intBits z ≤ 1048576) ∧ ∀ H', Q (.bl true) H'
theorem law_of {P : Program} {w : World} {K : PySem.W.Frag} {mg : Str → Option Value} {base : Heap} {k n : Nat} {f : Addr} {fd : FuncData} {ps : List Str} {g : List D → Rf} (G : FnG P w K mg base k f fd ps (spF K mg 1 none g))
    (h : ∀ ns : List Int, ns.length ≤ n → (∀ z ∈ ns, Builtin.Int.intBits z ≤ 1048576) → g [.scr ns] = .ok (.bl true) .ff .non) : FnG P w K mg base k f fd ps (spL K n) := by
  refine G.imp fun vs H Q E q => ?_
  obtain ⟨a, ns, rfl, hS, hl, hb, q⟩ := q
  refine ⟨H, [.scr ns], 0, Ex.refl _, .fz (.scr hS) .nil, rfl, ?_⟩
  rw [h ns hl hb]
  intro v B' H' _ _ rv
  cases rv
  exact q H'
end Dt
namespace Dt
open PySem PySem.Spec PyProof.Rows L2
def wipeE (ρ : Env) : List Nat → Env
  | [] => ρ
  | v :: vs => (wipeE ρ vs).set v .un
theorem wipeE_len (ρ : Env) : ∀ vs : List Nat, (wipeE ρ vs).length = ρ.length
  | [] => rfl
  | v :: vs => by unfold wipeE; rw [List.length_set, wipeE_len ρ vs]
section
variable {K : PySem.W.Frag} {F : Fr} {ρ ρ' : Env} {σ σ' : St} {B H B' H' : Hp}
theorem Lv.wipe (L : Lv K F ρ σ B H) : ∀ vs : List Nat, Lv K F (wipeE ρ vs) (L2.wipe σ vs) B H
  | [] => L
  | v :: vs => by
    have L1 := Lv.wipe L vs
    unfold wipeE L2.wipe
    generalize wipeE ρ vs = r at *
    generalize L2.wipe σ vs = s at *
    have sg : ∀ {j : Nat}, j ≠ v → (s.set v none)[j]? = s[j]? := fun {j} h => List.getElem?_set_ne (Ne.symm h)
    refine L1.few (by rw [List.length_set, List.length_set]; exact L1.len) (fun j d e1 => ?_) (fun j t e1 w1 => ?_)
    · rcases get_set e1 with ⟨rfl, z, l⟩ | ⟨n, e1⟩
      · cases z
      · rw [sg n]; exact L1.fz j d e1
    · rcases get_set e1 with ⟨rfl, z, l⟩ | ⟨n, e1⟩
      · rw [z] at w1; cases w1
      · exact ⟨e1, sg n⟩
theorem wipeE_get {ρ : Env} {j : Nat} {s : Slot} : ∀ {vs : List Nat}, (wipeE ρ vs)[j]? = some s → s = .un ∨ (j ∉ vs ∧ ρ[j]? = some s)
  | [], e => .inr ⟨by simp, e⟩
  | v :: vs, e => by
    rcases get_set e with ⟨rfl, z, l⟩ | ⟨n, e⟩
    · exact .inl z
    · rcases wipeE_get e with z | ⟨h, z⟩
      · exact .inl z
      · exact .inr ⟨fun q => (List.mem_cons.mp q).elim n h, z⟩
theorem Lv.unwipe {vs : List Nat} (L : Lv K F ρ (L2.wipe σ vs) B H) : Lv K F (wipeE ρ vs) σ B H := by
  have sg : ∀ {j : Nat}, j ∉ vs → (L2.wipe σ vs)[j]? = σ[j]? := fun {j} h => wipe_out h
  have own : ∀ {j : Nat} {s : Slot}, (wipeE ρ vs)[j]? = some s → owned s = true → j ∉ vs ∧ ρ[j]? = some s := fun {j s} e w => by
    rcases wipeE_get e with z | h
    · rw [z] at w; cases w
    · exact h
  refine L.few (by rw [wipeE_len, L.len, wipe_length]) (fun j d e1 => ?_) (fun j t e1 w1 => ?_)
  · rcases wipeE_get e1 with z | ⟨h, e1⟩
    · cases z
    · rw [← sg h]; exact L.fz j d e1
  · obtain ⟨h, e1⟩ := own e1 w1
    exact ⟨e1, (sg h).symm⟩
end
section
variable {X : Cx} {W : WX}
structure Wts (X : Cx) (ifs : List Expr) (σ : St) (H : Hp) (Q : Bool → Hp → Prop) : Prop where
  run : ∀ (pins : List (Addr × Obj)) (s : Shared), Inv X pins σ H s →
  wpAny (model X.prog X.w) X.A (forIn ifs true fun c r => if r = true then do let ok ← isTrue c X.env (eval c X.env); pure (ForInStep.yield ok) else pure (ForInStep.yield r)) (TP X pins σ Q) X.xe s
def wts (X : Cx) (ifs : List Expr) : TT := Wts X ifs
theorem PTs.wts {ifs : List Expr} {t : TT} {σ : St} {H : Hp} {Q : Bool → Hp → Prop} (h : PTs X ifs t) (q : t σ H Q) : wts X ifs σ H Q := Wts.mk fun pins s I => h.run pins s σ H Q I q
def ETs (X : Cx) (W : WX) (ifs : List Expr) (f : M Bool) : Prop := ∀ (F : Fr) (ρ : Env) (σ : St) (B H : Hp) (Q : Bool → Hp → Prop), Lv X.K F ρ σ B H →
  Post X W F σ B (f ρ) (fun b _ _ H' => Q b H') → wts X ifs σ H Q
theorem ets_nil : ETs X W [] (M.pure true) := fun F ρ σ B H Q L P => PTs.wts pts_nil (P B H (Ex.refl _) L)
theorem ets_one {c : Expr} {f : M Bool} (h : ET X W c f) : ETs X W [c] f := fun F ρ σ B H Q L P => PTs.wts (pts_one pt_wt) (h F ρ σ B H Q L P)
end
abbrev W0 : WX := fun _ _ _ _ => False
def mNoR {α : Type} (f : M α) : M α := fun ρ => match f ρ with
  | .ok a ρ' => .ok a ρ'
  | _ => .fail
def mLcL (own : List Nat) (g : D → Env → Option Env) (t : M Bool) (e : M D) : List D → List D → M (List D)
  | [], acc => M.pure acc
  | d :: r, acc => fun ρ => match g d ρ with
    | none => .fail
    | some ρ1 => M.bind (mNoR t) (fun k => match k with
      | false => fun ρ2 => mLcL own g t e r acc (wipeE ρ2 own)
      | true => M.bind (mNoR e) fun y ρ2 => if acc.length < 10000 then mLcL own g t e r (acc ++ [y]) (wipeE ρ2 own) else .fail) ρ1
def mLc (own : List Nat) (f : M (List D)) (g : D → Env → Option Env) (t : M Bool) (e : M D) : M (D × Ob) := M.bind f fun ds ρ => match mLcL own g t e ds [] (wipeE ρ own) with
  | .ok acc ρ2 => .ok (.lst acc, .tt) (wipeE ρ2 own)
  | _ => .fail
def obMk : Ob → D → Option Mk
  | .ff, _ => some .z
  | .tt, .lst _ => some (.l .z)
  | .tt, _ => none
  | .dp m, _ => some m
  | .al, _ => none
noncomputable instance : DecidableEq Mk := fun a b => Classical.propDecidable (a = b)
noncomputable def mLcG (own : List Nat) (g : D → Env → Option Env) (t : M Bool) (e : M (D × Ob)) (m : Mk) : List D → List D → M (List D)
  | [], acc => M.pure acc
  | d :: r, acc => fun ρ => match g d ρ with
    | none => .fail
    | some ρ1 => M.bind (mNoR t) (fun k => match k with
      | false => fun ρ2 => mLcG own g t e m r acc (wipeE ρ2 own)
      | true => M.bind (mNoR e) fun y ρ2 => if acc.length < 10000 ∧ obMk y.2 y.1 = some m then mLcG own g t e m r (acc ++ [y.1]) (wipeE ρ2 own) else .fail) ρ1
noncomputable def mLcD (own : List Nat) (m : Mk) (f : M (List D)) (g : D → Env → Option Env) (t : M Bool) (e : M (D × Ob)) : M (D × Ob) := M.bind f fun ds ρ => match mLcG own g t e m ds [] (wipeE ρ own) with
  | .ok acc ρ2 => .ok (.lst acc, .dp (.l m)) (wipeE ρ2 own)
  | _ => .fail
theorem mLcG_z {own : List Nat} {g : D → Env → Option Env} {t : M Bool} {e : M D} : ∀ (ds acc : List D) (ρ : Env), mLcG own g t (mOf e) .z ds acc ρ = mLcL own g t e ds acc ρ
  | [], acc, ρ => rfl
  | d :: r, acc, ρ => by
    unfold mLcG mLcL
    cases g d ρ with
    | none => rfl
    | some ρ1 =>
      simp only
      unfold M.bind
      cases mNoR t ρ1 with
      | rz c ρ2 => rfl
      | fail => rfl
      | ok k ρ2 =>
        simp only
        cases k with
        | false => exact mLcG_z r acc _
        | true =>
          simp only
          unfold mNoR mOf M.bind
          cases e ρ2 with
          | rz c ρ3 => rfl
          | fail => rfl
          | ok y ρ3 =>
            simp only [M.pure, obMk, and_true]
            split
            · exact mLcG_z r (acc ++ [y]) _
            · rfl
theorem VO.tr {K : PySem.W.Frag} {F : Fr} {ρ : Env} {σ : St} {B H : Hp} {v : V} {d : D} {o : Ob} {m : Mk} (w : VO K F ρ σ B H v d o) (h : obMk o d = some m) : ∃ S, Tr K B H m v d S ∧ S.Nodup ∧ ∀ a ∈ S, (F.A a ∨ F.H0 a = none) ∧ ¬ OwS K B H ρ σ a := by
  cases o with
  | ff => injection h with h; subst h; exact ⟨[], by unfold Tr; exact ⟨w, rfl⟩, .nil, fun a q => nomatch q⟩
  | tt =>
    cases d with
    | lst ds =>
      injection h with h; subst h
      obtain ⟨a, rfl, ⟨hb, vs, hv, fs⟩, g, no⟩ := w
      refine ⟨[a], ?_, by simp, fun b hb => by rw [List.mem_singleton.mp hb]; exact ⟨g, no⟩⟩
      unfold Tr
      refine ⟨a, vs, ds, [], rfl, rfl, hb, hv, ?_, rfl⟩
      have : ∀ {vs : List V} {ds : List D}, Fzs K B vs ds → Its (Tr K B H .z) vs ds [] := fun {vs ds} fs => by
        induction vs generalizing ds with
        | nil => cases fs; exact .nil
        | cons v vs ih =>
          cases fs with
          | cons f fs => exact .cons (S := []) (T := []) (by unfold Tr; exact ⟨f, rfl⟩) (ih fs)
      exact this fs
    | _ => cases h
  | dp m' => injection h with h; subst h; exact w
  | al => cases h
theorem Its.z {K : PySem.W.Frag} {B H : Hp} {vs : List V} {ds : List D} {S : List Addr} (h : Its (Tr K B H .z) vs ds S) : Fzs K B vs ds ∧ S = [] := by
  induction h with
  | nil => exact ⟨.nil, rfl⟩
  | cons a t ih =>
    unfold Tr at a
    exact ⟨.cons a.1 ih.1, by rw [a.2, ih.2]; rfl⟩
theorem VO.flat {K : PySem.W.Frag} {F : Fr} {ρ : Env} {σ : St} {B H : Hp} {v : V} {d : D} (w : VO K F ρ σ B H v d (.dp (.l .z))) : VO K F ρ σ B H v d .tt := by
  obtain ⟨S, t, nd, g⟩ := w
  unfold Tr at t
  obtain ⟨a, vs, ds, T, rfl, rfl, hb, hv, i, rfl⟩ := t
  obtain ⟨fs, rfl⟩ := i.z
  obtain ⟨g1, g2⟩ := g a (by simp)
  exact ⟨a, rfl, ⟨hb, vs, hv, fs⟩, g1, g2⟩
theorem Its.app {R : V → D → List Addr → Prop} {vs : List V} {ds : List D} {S T : List Addr} {v : V} {d : D} (h : Its R vs ds S) (r : R v d T) : Its R (vs ++ [v]) (ds ++ [d]) (S ++ T) := by
  induction h with
  | nil => exact (by simpa using Its.cons r .nil)
  | cons a t ih =>
    rw [List.append_assoc]
    exact .cons a ih
theorem wipe_onl {is vs : List Nat} {σ σ' : St} (h : Onl is (L2.wipe σ vs) σ') (hs : ∀ i ∈ is, i ∈ vs) : L2.wipe σ' vs = L2.wipe σ vs := by
  apply List.ext_getElem?
  intro j
  by_cases hj : j ∈ vs
  · have e : ∀ (τ : St) (ws : List Nat), j ∈ ws → (L2.wipe τ ws)[j]? = if j < τ.length then some none else none := by
      intro τ ws
      induction ws with
      | nil => intro z; cases z
      | cons w ws ih =>
        intro z
        unfold L2.wipe
        by_cases hw : w = j
        · subst hw
          by_cases l : w < τ.length
          · rw [List.getElem?_set_self (by rw [wipe_length]; exact l), if_pos l]
          · rw [List.getElem?_eq_none (by rw [List.length_set, wipe_length]; omega), if_neg l]
        · rw [List.getElem?_set_ne hw]
          exact ih ((List.mem_cons.mp z).resolve_left (fun q => hw q.symm))
    rw [e σ' vs hj, e σ vs hj, h.1, wipe_length]
  · rw [wipe_out hj, h.2 j (fun z => hj (hs j z))]
def gB (X : Cx) (scope : Scope) (tg : Expr) : TG := fun v σ H Q => ∀ (s : Shared) (H0 : Hp) (C : Addr) (cl : List (Str × Addr)) (fp : List Addr), wg (X.blk s H0 scope (compEnvC scope cl C X.env) fp) tg v σ H Q
def tsB (X : Cx) (scope : Scope) (ifs : List Expr) : TT := fun σ H Q => ∀ (s : Shared) (H0 : Hp) (C : Addr) (cl : List (Str × Addr)) (fp : List Addr), wts (X.blk s H0 scope (compEnvC scope cl C X.env) fp) ifs σ H Q
def eB (X : Cx) (scope : Scope) (elt : Expr) : TE := fun σ H Q => ∀ (s : Shared) (H0 : Hp) (C : Addr) (cl : List (Str × Addr)) (fp : List Addr), we (X.blk s H0 scope (compEnvC scope cl C X.env) fp) elt σ H Q
section
variable {X : Cx} {W : WX} {elt tg iter : Expr} {ifs : List Expr} {scope : Scope} {own : List (Str × Nat)} {pos : Pos} {is : List Nat} {f : M (List D)} {g : D → Env → Option Env} {t : M Bool} {e : M D}
theorem lcG_at {m : Mk} {e : M (D × Ob)}
    (hg : ∀ (s : Shared) (H : Hp) (C : Addr) (cl : List (Str × Addr)) (fp : List Addr), GV (X.blk s H scope (compEnvC scope cl C X.env) fp) tg is g)
    (ht : ∀ (s : Shared) (H : Hp) (C : Addr) (cl : List (Str × Addr)) (fp : List Addr), ETs (X.blk s H scope (compEnvC scope cl C X.env) fp) W0 ifs t)
    (he : ∀ (s : Shared) (H : Hp) (C : Addr) (cl : List (Str × Addr)) (fp : List Addr), EO (X.blk s H scope (compEnvC scope cl C X.env) fp) W0 elt e)
    (his : ∀ i ∈ is, i ∈ own.map (·.2)) {F : Fr} {ρ : Env} {σ : St} {B H : Hp} {Q : VK} (hi : ∀ R, Post X W F σ B (f ρ) (fun ds _ B' H' => ∀ J, ItOk X.K J B' ds → R J H') → wi X tg iter σ H R) (L : Lv X.K F ρ σ B H)
    (P : Post X W F σ B (mLcD (own.map (·.2)) m f g t e ρ) (fun p ρ' B' H' => ∀ v, VO X.K F ρ' σ B' H' v p.1 p.2 → Q v H')) : tLc (wi X tg iter) (gB X scope tg) (tsB X scope ifs) (eB X scope elt) (own.map (·.2)) σ H Q := by
  generalize hvs : own.map (·.2) = vs at *
  refine hi _ ((Post.bind P).imp fun ds ρ1 B1 H1 e1 L1 P1 J hJ Dl hD => ?_)
  have Lw : Lv X.K F (wipeE ρ1 vs) (L2.wipe σ vs) B1 H1 := L1.wipe vs
  -- what is wanted of the block's outcome
  let PC : Rs (List D) → Prop := fun r => match r with
    | .ok acc ρ2 => ∀ B' H', Ex B1 B' → Lv X.K F (wipeE ρ2 vs) σ B' H' → ∀ v, VO X.K F (wipeE ρ2 vs) σ B' H' v (.lst acc) (.dp (.l m)) → Q v H'
    | _ => False
  have PC0 : PC (mLcG vs g t e m ds [] (wipeE ρ1 vs)) := by
    have P2 : Post X W F σ B1 ((match mLcG vs g t e m ds [] (wipeE ρ1 vs) with
      | .ok acc ρ2 => .ok (.lst acc, .dp (.l m)) (wipeE ρ2 vs)
      | _ => .fail) : Rs (D × Ob)) _ := P1
    cases q : mLcG vs g t e m ds [] (wipeE ρ1 vs) with
    | ok acc ρ2 => rw [q] at P2; exact fun B' H' e' L' v w => P2 B' H' e' L' v w
    | rz c ρ2 => rw [q] at P2; exact P2.elim
    | fail => rw [q] at P2; exact P2.elim
  have nD0 : ¬ OwS X.K B1 H1 (wipeE ρ1 vs) (L2.wipe σ vs) Dl := fun z => (Lw.hidOw z).2.ne hD
  let G : Fr := ⟨B1, H1, OwS X.K B1 H1 (wipeE ρ1 vs) (L2.wipe σ vs), F.P⟩
  -- the list so far
  let IN : List D → Hp → Prop := fun r H' => ∃ ρ' B' acc xs S, Lv X.K G ρ' (L2.wipe σ vs) B' H' ∧ H' Dl = some (.lst xs) ∧ B' Dl = none ∧ Its (Tr X.K B' H' m) xs acc S ∧ (Dl :: S).Nodup ∧ (∀ a ∈ Dl :: S, (G.A a ∨ G.H0 a = none) ∧ ¬ OwS X.K B' H' ρ' (L2.wipe σ vs) a) ∧ PC (mLcG vs g t e m r acc ρ')
  have IN0 : IN ds (upd H1 Dl (.lst [])) := by
    refine ⟨wipeE ρ1 vs, B1, [], [], [], Lw.nest.allocO hD, upd_same, L1.ex.nn hD, .nil, by simp, fun a ha => ?_, PC0⟩
    rw [List.mem_singleton.mp ha]
    exact ⟨.inr hD, fun z => nD0 (z.chg Lw.nest nD0)⟩
  refine ⟨fun i k H' => k = ds.length - i ∧ i ≤ ds.length ∧ IN (ds.drop i) H', ⟨ds.length, by simp, Nat.zero_le _, IN0⟩, ?_⟩
  rintro i k H2 ⟨rfl, hi2, ρ2, B2, acc, xs, S, M2, hl, hb, fs, nd, ga, P2⟩
  by_cases hlt : i < ds.length
  · refine .inr ⟨hJ.go B2 H2 i M2.exB M2.ex hlt, IN (ds.drop (i + 1)), fun H' q => ⟨ds.length - (i + 1), by omega, rfl, hlt, q⟩, fun x H3 hy => ?_⟩
    rw [List.drop_eq_getElem_cons hlt] at P2
    have hd : ds[i]? = some ds[i] := List.getElem?_eq_getElem hlt
    generalize ds[i] = d at *
    generalize ds.drop (i + 1) = r at *
    have fin : ∀ (B3 : Hp), Ex B2 B3 → Lv X.K G ρ2 (L2.wipe σ vs) B3 H3 → H3 Dl = some (.lst xs) → B3 Dl = none → Its (Tr X.K B3 H3 m) xs acc S → (∀ a ∈ Dl :: S, ¬ OwS X.K B3 H3 ρ2 (L2.wipe σ vs) a) → Fz X.K B3 x d →
        gB X scope tg x (L2.wipe σ vs) H3 fun σ2 H2 => L2.wipe σ2 vs = L2.wipe σ vs ∧ tsB X scope ifs σ2 H2 fun b H3 => if b = true then eB X scope elt σ2 H3 fun y H4 => ∃ acc, H4 Dl = some (.lst acc) ∧ acc.length < sizeLine ∧ IN r (upd H4 Dl (.lst (acc ++ [y]))) else IN r H3 := by
      intro B3 e3 M3 hl3 hb3 fs3 no fx s0 H0 C0 cl0 fp0
      have N3 := M3.nest
      refine hg s0 H0 C0 cl0 fp0 _ ρ2 _ B3 H3 x d _ N3 fx ?_
      have P3 : PC (match g d ρ2 with
        | none => .fail
        | some ρ1 => M.bind (mNoR t) (fun k => match k with
          | false => fun ρ2 => mLcG vs g t e m r acc (wipeE ρ2 vs)
          | true => M.bind (mNoR e) fun y ρ2 => if acc.length < 10000 ∧ obMk y.2 y.1 = some m then mLcG vs g t e m r (acc ++ [y.1]) (wipeE ρ2 vs) else .fail) ρ1) := by
        have P2' := P2
        unfold mLcG at P2'
        exact P2'
      -- what the list so far holds is there
      have thr : ∀ a ∈ Dl :: S, B3 a = none ∧ Ct H3 a := fun a ha => by
        rcases List.mem_cons.mp ha with rfl | ha
        · exact ⟨hb3, .of hl3 fun _ z => nomatch z⟩
        · exact fs3.all (fun v d T r => Tr.hid r) a ha
      cases q : g d ρ2 with
      | none => rw [q] at P3; exact P3.elim
      | some ρ3 =>
        rw [q] at P3
        intro σ4 B4 H4 on4 e4 N4
        have hw : L2.wipe σ4 vs = L2.wipe σ vs := by rw [wipe_onl (is := is) on4 his]
        -- behind the element: wiped, back in the frame
        have back : ∀ {ρ5 : Env} {B5 H5 : Hp}, Lv X.K ⟨B3, H3, OwS X.K B3 H3 ρ2 (L2.wipe σ vs), F.P⟩ ρ5 σ4 B5 H5 → Lv X.K G (wipeE ρ5 vs) (L2.wipe σ vs) B5 H5 ∧ H5 Dl = some (.lst xs) ∧ B5 Dl = none ∧ Its (Tr X.K B5 H5 m) xs acc S ∧ ∀ a ∈ Dl :: S, ¬ OwS X.K B5 H5 (wipeE ρ5 vs) (L2.wipe σ vs) a := by
          intro ρ5 B5 H5 N5
          have M5 := M3.back N5
          have M6 := M5.wipe vs
          rw [hw] at M6
          have kp : ∀ a ∈ Dl :: S, B5 a = none ∧ ∀ o, H3 a = some o → H5 a = some o := fun a ha => ⟨N5.hid a (thr a ha).1 (thr a ha).2 (no a ha), fun o q => N5.kept a o q (no a ha)⟩
          refine ⟨M6, (kp Dl (by simp)).2 _ hl3, (kp Dl (by simp)).1, fs3.imp fun v d T tr sub => tr.keep N5.exB (fun a ha => (kp a (List.mem_cons_of_mem _ (sub a ha))).1) (fun a ha => (kp a (List.mem_cons_of_mem _ (sub a ha))).2), fun a ha ⟨j, s, v, T, e1, q1, f1, m1⟩ => ?_⟩
          rcases wipeE_get e1 with z | ⟨hj, e1⟩
          · rw [z] at f1; exact f1.elim
          · rw [← hw, wipe_out hj] at q1
            rcases N5.ofOw ⟨j, s, v, T, e1, q1, f1, m1⟩ with z | z
            · exact no a ha z
            · exact (thr a ha).2.ne z
        have PP : Post X W0 ⟨B3, H3, OwS X.K B3 H3 ρ2 (L2.wipe σ vs), F.P⟩ σ4 B4 (t ρ3) (fun k ρ5 B5 H5 => Ex B4 B5 ∧ PC ((match k with
          | false => fun ρ2 => mLcG vs g t e m r acc (wipeE ρ2 vs)
          | true => M.bind (mNoR e) fun y ρ2 => if acc.length < 10000 ∧ obMk y.2 y.1 = some m then mLcG vs g t e m r (acc ++ [y.1]) (wipeE ρ2 vs) else .fail) ρ5)) := by
          have P4 : PC (M.bind (mNoR t) _ ρ3) := P3
          unfold M.bind mNoR at P4
          cases q2 : t ρ3 with
          | ok k ρ5 => rw [q2] at P4; exact fun B' H' e' _ => ⟨e', P4⟩
          | rz c ρ5 => rw [q2] at P4; exact P4.elim
          | fail => rw [q2] at P4; exact P4.elim
        refine ⟨hw, fun s1 H01 C1 cl1 fp1 => ht s1 H01 C1 cl1 fp1 _ ρ3 σ4 B4 H4 _ N4 (PP.imp fun k ρ5 B5 H5 e5 N5 ⟨_, P5⟩ => ?_)⟩
        cases k with
        | false =>
          rw [if_neg Bool.false_ne_true]
          obtain ⟨M6, h6, b6, t6, n6⟩ := back N5
          exact ⟨wipeE ρ5 vs, B5, acc, xs, S, M6, h6, b6, t6, nd, fun a ha => ⟨(ga a ha).1, n6 a ha⟩, P5⟩
        | true =>
          rw [if_pos rfl]
          have PE5 : Post X W0 ⟨B3, H3, OwS X.K B3 H3 ρ2 (L2.wipe σ vs), F.P⟩ σ4 B5 (e ρ5) (fun y ρ6 B6 H6 => (acc.length < 10000 ∧ obMk y.2 y.1 = some m) ∧ PC (mLcG vs g t e m r (acc ++ [y.1]) (wipeE ρ6 vs))) := by
            have P6 : PC (M.bind (mNoR e) (fun y ρ2 => if acc.length < 10000 ∧ obMk y.2 y.1 = some m then mLcG vs g t e m r (acc ++ [y.1]) (wipeE ρ2 vs) else .fail) ρ5) := P5
            unfold M.bind mNoR at P6
            cases q2 : e ρ5 with
            | ok y ρ6 =>
              rw [q2] at P6
              intro B' H' e' _
              have P7 : PC (if acc.length < 10000 ∧ obMk y.2 y.1 = some m then mLcG vs g t e m r (acc ++ [y.1]) (wipeE ρ6 vs) else .fail) := P6
              split at P7
              · rename_i hh; exact ⟨hh, P7⟩
              · exact P7.elim
            | rz c ρ6 => rw [q2] at P6; exact P6.elim
            | fail => rw [q2] at P6; exact P6.elim
          intro s2 H02 C2 cl2 fp2
          refine he s2 H02 C2 cl2 fp2 _ ρ5 σ4 B5 H5 _ N5 (PE5.imp fun y ρ6 B6 H6 e6 N6 ⟨hz, P7⟩ v vo => ?_)
          obtain ⟨M6, h6, b6, t6, n6⟩ := back N6
          obtain ⟨T, tr, ndT, gT⟩ := VO.tr vo hz.2
          -- what is new is apart from the list so far
          have ap : ∀ a ∈ T, a ∉ Dl :: S := fun a ha hs => by
            rcases (gT a ha).1 with z | z
            · exact no a hs z
            · exact (thr a hs).2.ne z
          have nT : ∀ a ∈ T, ¬ OwS X.K B6 H6 (wipeE ρ6 vs) (L2.wipe σ vs) a := fun a ha ⟨j, s, u, U, e1, q1, f1, m1⟩ => by
            rcases wipeE_get e1 with z | ⟨hj, e1⟩
            · rw [z] at f1; exact f1.elim
            · rw [← hw, wipe_out hj] at q1
              exact (gT a ha).2 ⟨j, s, u, U, e1, q1, f1, m1⟩
          have nD := n6 Dl (by simp)
          have M7 := M6.hidW0 (o := .lst (xs ++ [v])) b6 (ga Dl (by simp)).1 nD
          have kD : ∀ a, a ≠ Dl → ∀ o, H6 a = some o → upd H6 Dl (.lst (xs ++ [v])) a = some o := fun a n o q => by rw [upd_ne n]; exact q
          have nd1 := List.nodup_cons.mp nd
          refine ⟨xs, h6, lt_line (by rw [t6.len]; exact hz.1), wipeE ρ6 vs, B6, acc ++ [y.1], xs ++ [v], S ++ T, M7, upd_same, b6, Its.app (t6.imp fun w d U tr sub => tr.keep (Ex.refl _) (fun a ha => (tr.hid a ha).1) (fun a ha => kD a fun z => nd1.1 (z ▸ sub a ha))) (tr.keep (Ex.refl _) (fun a ha => (tr.hid a ha).1) (fun a ha => kD a fun z => ap a ha (by rw [z]; simp))), ?_, fun a ha => ?_, P7⟩
          · rw [← List.cons_append]
            exact List.nodup_append.mpr ⟨nd, ndT, fun a ha b hb z => ap b hb (z ▸ ha)⟩
          · rw [← List.cons_append] at ha
            rcases List.mem_append.mp ha with ha | ha
            · exact ⟨(ga a ha).1, fun z => n6 a ha (z.chg M6 nD)⟩
            · refine ⟨?_, fun z => nT a ha (z.chg M6 nD)⟩
              rcases (gT a ha).1 with z | z
              · exact M3.ofOw z
              · exact .inr (M3.free z)
    rcases hJ.yld B2 H2 i x H3 _ M2.exB M2.ex hy hd with ⟨rfl, fx⟩ | ⟨p, o, hp2, rfl, fx⟩ | ⟨p, ys, hp2, hp3, rfl, fx⟩
    · exact fin B2 (Ex.refl _) M2 hl hb fs (fun a ha => (ga a ha).2) fx
    · have th : ∀ a ∈ Dl :: S, B2 a = none ∧ Ct H2 a := fun a ha => by
        rcases List.mem_cons.mp ha with rfl | ha
        · exact ⟨hb, .of hl fun _ z => nomatch z⟩
        · exact fs.all (fun v d T r => Tr.hid r) a ha
      have np : ∀ a ∈ Dl :: S, a ≠ p := fun a ha z => (th a ha).2.ne (z ▸ hp2)
      have npo : ¬ OwS X.K B2 H2 ρ2 (L2.wipe σ vs) p := fun z => (M2.hidOw z).2.ne hp2
      have nB := M2.ex.nn hp2
      refine fin _ (Ex.new nB) (M2.alloc hp2) (by rw [upd_ne (np Dl (by simp))]; exact hl) (by rw [upd_ne (np Dl (by simp))]; exact hb) (fs.imp fun v d T tr sub => tr.keep (Ex.new nB) (fun a ha => by rw [upd_ne (np a (List.mem_cons_of_mem _ (sub a ha)))]; exact (tr.hid a ha).1) (fun a ha o q => by rw [upd_ne (np a (List.mem_cons_of_mem _ (sub a ha)))]; exact q)) (fun a ha z => (ga a ha).2 (z.back M2 (Ex.new nB) fun b w => ?_)) fx
      have nbp : b ≠ p := fun z => npo (z ▸ w)
      exact ⟨by rw [upd_ne nbp]; exact (M2.hidOw w).1, fun u q => by rw [upd_ne nbp]; exact q⟩
    · have th : ∀ a ∈ Dl :: S, B2 a = none ∧ Ct H3 a := fun a ha => by
        rcases List.mem_cons.mp ha with rfl | ha
        · exact ⟨hb, .of hl fun _ z => nomatch z⟩
        · exact fs.all (fun v d T r => Tr.hid r) a ha
      have nt : ∀ a, Ct H3 a → a ≠ p := fun a ⟨u, h1, h2⟩ z => by subst z; rw [hp2] at h1; injection h1 with h1; exact h2 _ h1.symm
      have np : ∀ a ∈ Dl :: S, a ≠ p := fun a ha => nt a (th a ha).2
      refine fin _ (Ex.new hp3) (M2.freezeT hp2 hp3) hl (by rw [upd_ne (np Dl (by simp))]; exact hb) (fs.imp fun v d T tr sub => tr.keep (Ex.new hp3) (fun a ha => by rw [upd_ne (np a (List.mem_cons_of_mem _ (sub a ha)))]; exact (tr.hid a ha).1) (fun a ha o q => q)) (fun a ha z => (ga a ha).2 (z.back M2 (Ex.new hp3) fun b w => ?_)) fx
      exact ⟨by rw [upd_ne (nt b (M2.hidOw w).2)]; exact (M2.hidOw w).1, fun u q => q⟩
  · have ei : i = ds.length := by omega
    subst ei
    rw [List.drop_length] at P2
    refine .inl ⟨hJ.stop B2 H2 _ M2.exB M2.ex (Nat.le_refl _), ?_⟩
    have M3 := Lw.back M2
    have M4 := M3.unwipe
    refine P2 B2 H2 M2.exB M4 _ ⟨Dl :: S, ?_, nd, fun a ha => ⟨?_, fun ⟨j, s, v, T, e1, q1, f1, m1⟩ => ?_⟩⟩
    · unfold Tr; exact ⟨Dl, xs, acc, S, rfl, rfl, hb, hl, fs, rfl⟩
    · rcases (ga a ha).1 with z | z
      · exact Lw.ofOw z
      · exact .inr (Lw.free z)
    · rcases wipeE_get e1 with z | ⟨hj, e1⟩
      · rw [z] at f1; exact f1.elim
      · rw [← wipe_out hj] at q1
        exact (ga a ha).2 ⟨j, s, v, T, e1, q1, f1, m1⟩
theorem lc_at
    (hg : ∀ (s : Shared) (H : Hp) (C : Addr) (cl : List (Str × Addr)) (fp : List Addr), GV (X.blk s H scope (compEnvC scope cl C X.env) fp) tg is g)
    (ht : ∀ (s : Shared) (H : Hp) (C : Addr) (cl : List (Str × Addr)) (fp : List Addr), ETs (X.blk s H scope (compEnvC scope cl C X.env) fp) W0 ifs t)
    (he : ∀ (s : Shared) (H : Hp) (C : Addr) (cl : List (Str × Addr)) (fp : List Addr), EV (X.blk s H scope (compEnvC scope cl C X.env) fp) W0 elt e)
    (his : ∀ i ∈ is, i ∈ own.map (·.2)) {F : Fr} {ρ : Env} {σ : St} {B H : Hp} {Q : VK} (hi : ∀ R, Post X W F σ B (f ρ) (fun ds _ B' H' => ∀ J, ItOk X.K J B' ds → R J H') → wi X tg iter σ H R) (L : Lv X.K F ρ σ B H)
    (P : Post X W F σ B (mLc (own.map (·.2)) f g t e ρ) (fun p ρ' B' H' => ∀ v, VO X.K F ρ' σ B' H' v p.1 p.2 → Q v H')) : tLc (wi X tg iter) (gB X scope tg) (tsB X scope ifs) (eB X scope elt) (own.map (·.2)) σ H Q := by
  refine lcG_at (m := .z) (e := mOf e) hg ht (fun s H C cl fp => eo_of (he s H C cl fp)) his hi L ?_
  unfold mLc M.bind at P
  unfold mLcD M.bind
  cases q : f ρ with
  | fail => rw [q] at P; exact P.elim
  | rz c ρ1 => rw [q] at P; exact P
  | ok ds ρ1 =>
    rw [q] at P
    simp only [mLcG_z] at P ⊢
    cases q2 : mLcL (own.map (·.2)) g t e ds [] (wipeE ρ1 (own.map (·.2))) with
    | ok acc ρ2 => rw [q2] at P; exact fun B' H' e' L' v w => P B' H' e' L' v w.flat
    | rz c ρ2 => rw [q2] at P; exact P.elim
    | fail => rw [q2] at P; exact P.elim
theorem lc_read (hi : IV X W tg iter f)
    (hg : ∀ (s : Shared) (H : Hp) (C : Addr) (cl : List (Str × Addr)) (fp : List Addr), GV (X.blk s H scope (compEnvC scope cl C X.env) fp) tg is g)
    (ht : ∀ (s : Shared) (H : Hp) (C : Addr) (cl : List (Str × Addr)) (fp : List Addr), ETs (X.blk s H scope (compEnvC scope cl C X.env) fp) W0 ifs t)
    (he : ∀ (s : Shared) (H : Hp) (C : Addr) (cl : List (Str × Addr)) (fp : List Addr), EV (X.blk s H scope (compEnvC scope cl C X.env) fp) W0 elt e)
    (his : ∀ i ∈ is, i ∈ own.map (·.2)) {F : Fr} {ρ : Env} {σ : St} {B H : Hp} {Q : VK} (L : Lv X.K F ρ σ B H)
    (P : Post X W F σ B (mLc (own.map (·.2)) f g t e ρ) (fun p ρ' B' H' => ∀ v, VO X.K F ρ' σ B' H' v p.1 p.2 → Q v H')) : tLc (wi X tg iter) (gB X scope tg) (tsB X scope ifs) (eB X scope elt) (own.map (·.2)) σ H Q :=
  lc_at hg ht he his (fun R P => hi F ρ σ B H R L P) L P
theorem eo_lc (hc : X.calm = true) (hN : X.N.Nodup) (hi : IV X W tg iter f) (ok : BlkOk X.N X.env.scope scope own)
    (hg : ∀ (s : Shared) (H : Hp) (C : Addr) (cl : List (Str × Addr)) (fp : List Addr), GV (X.blk s H scope (compEnvC scope cl C X.env) fp) tg is g)
    (ht : ∀ (s : Shared) (H : Hp) (C : Addr) (cl : List (Str × Addr)) (fp : List Addr), ETs (X.blk s H scope (compEnvC scope cl C X.env) fp) W0 ifs t)
    (he : ∀ (s : Shared) (H : Hp) (C : Addr) (cl : List (Str × Addr)) (fp : List Addr), EV (X.blk s H scope (compEnvC scope cl C X.env) fp) W0 elt e)
    (his : ∀ i ∈ is, i ∈ own.map (·.2) := by decide) (hs : ∀ x, foldedSetIterable iter X.env x = pure x := by intro _; rfl) : EO X W (.ListComp elt [⟨tg, iter, ifs, 0⟩] scope pos) (mLc (own.map (·.2)) f g t e) := by
  intro F ρ σ B H Q L P
  exact PE.we (pe_lc (g := gB X scope tg) (tt := tsB X scope ifs) (te := eB X scope elt) hc hN pi_wi ok (fun s H0 C cl fp => ⟨fun pins s' σ H v u Q I r h => Wg.run (h s H0 C cl fp) pins s' u I r⟩) (fun s H0 C cl fp => ⟨fun pins s' σ H Q I h => Wts.run (h s H0 C cl fp) pins s' I⟩) (fun s H0 C cl fp => ⟨fun pins s' σ H Q I h => We.run (h s H0 C cl fp) pins s' I⟩) hs) (lc_read hi hg ht he his L P)
theorem sv_setLc {i : Nat} {y : Str} {py spos : Pos} (hc : X.calm = true) (hN : X.N.Nodup) (hi : IV X W tg iter f) (ok : BlkOk X.N X.env.scope scope own)
    (hg : ∀ (s : Shared) (H : Hp) (C : Addr) (cl : List (Str × Addr)) (fp : List Addr), GV (X.blk s H scope (compEnvC scope cl C X.env) fp) tg is g)
    (ht : ∀ (s : Shared) (H : Hp) (C : Addr) (cl : List (Str × Addr)) (fp : List Addr), ETs (X.blk s H scope (compEnvC scope cl C X.env) fp) W0 ifs t)
    (he : ∀ (s : Shared) (H : Hp) (C : Addr) (cl : List (Str × Addr)) (fp : List Addr), EV (X.blk s H scope (compEnvC scope cl C X.env) fp) W0 elt e)
    (hsw : swapsWith (.ListComp elt [⟨tg, iter, ifs, 0⟩] scope pos) (some (.Name y py)) spos.line X.env = pure true)
    (hy : X.N[i]? = some y := by rfl) (hyl : X.env.scope.names.lookup y = some .local := by rfl)
    (his : ∀ i ∈ is, i ∈ own.map (·.2) := by decide) (hs : ∀ x, foldedSetIterable iter X.env x = pure x := by intro _; rfl) : SV X W (.Assign [.Name y py] (.ListComp elt [⟨tg, iter, ifs, 0⟩] scope pos) spos) (mSet i (mLc (own.map (·.2)) f g t e)) := by
  intro F ρ σ B H N L P
  refine PS.ws (ps_setLc (g := gB X scope tg) (tt := tsB X scope ifs) (te := eB X scope elt) hc hN hy hyl hsw pi_wi ok (fun s H0 C cl fp => ⟨fun pins s' σ H v u Q I r h => Wg.run (h s H0 C cl fp) pins s' u I r⟩) (fun s H0 C cl fp => ⟨fun pins s' σ H Q I h => Wts.run (h s H0 C cl fp) pins s' I⟩) (fun s H0 C cl fp => ⟨fun pins s' σ H Q I h => We.run (h s H0 C cl fp) pins s' I⟩) hs) ?_
  exact lc_read hi hg ht he his L ((PostS.bind P).imp fun p ρ1 B1 H1 e1 L1 P1 v w => P1.put L1 w)
end
end Dt
namespace Dt
open PySem PySem.Spec PyProof.Rows L2
section
variable {X : Cx} {W : WX} {e a b c : Expr} {pos : Pos} {K : PySem.W.Frag}
def CnIn (K : PySem.W.Frag) (mg : Str → Option Value) (x : Str) (d : D) : Prop := ∃ u v, mg x = some u ∧ RelV v u ∧ ∀ B, Fz K B v d
theorem ev_const {x : Str} {d : D} (T : CnIn X.K X.mg x d) (hg : Gl X x := by rfl) (hd : (x == ("__debug__" : Str)) = false := by decide) : EV X W (.Name x pos) (M.pure d) := by
  obtain ⟨u, v, hm, r, hf⟩ := T
  exact ev_glob hg hm r hf hd
theorem cn_int {mg : Str → Option Value} {x : Str} {i : Int} {t : Tok} (h : mg x = some (.int i t)) : CnIn K mg x (.int i) := ⟨_, .int i, h, ⟨t, rfl⟩, fun _ => .int i⟩
theorem cn_str {mg : Str → Option Value} {x s : Str} {t : Tok} (h : mg x = some (.str s t)) : CnIn K mg x (.str s) := ⟨_, .str s, h, ⟨t, rfl⟩, fun _ => .str s⟩
inductive Flats : List Value → List D → Prop
  | nil : Flats [] []
  | int {i : Int} {t : Tok} {us : List Value} {ds : List D} : Flats us ds → Flats (.int i t :: us) (.int i :: ds)
  | str {x : Str} {t : Tok} {us : List Value} {ds : List D} : Flats us ds → Flats (.str x t :: us) (.str x :: ds)
theorem Flats.go {K : PySem.W.Frag} : ∀ {us : List Value} {ds : List D}, Flats us ds → ∃ vs, Vals vs us ∧ ∀ B, Fzs K B vs ds
  | _, _, .nil => ⟨[], .nil, fun _ => .nil⟩
  | _, _, .int (i := i) (t := t) r => by
    obtain ⟨vs, h1, h2⟩ := Flats.go (K := K) r
    exact ⟨.int i :: vs, .cons ⟨t, rfl⟩ h1, fun B => .cons (.int i) (h2 B)⟩
  | _, _, .str (x := x) (t := t) r => by
    obtain ⟨vs, h1, h2⟩ := Flats.go (K := K) r
    exact ⟨.str x :: vs, .cons ⟨t, rfl⟩ h1, fun B => .cons (.str x) (h2 B)⟩
theorem cn_tup {mg : Str → Option Value} {x : Str} {p : Addr} {od : Option Addr} {us : List Value} {n : Nat} {sl : Array (Option Value)} {ds : List D} (h : mg x = some (.ref p)) (l : K.lookup p = some ⟨.type "tuple", od, .seq us.toArray n, sl⟩) (hz : us.length ≤ 1000) (fl : Flats us ds) : CnIn K mg x (.tup ds) := by
  obtain ⟨vs, h1, h2⟩ := Flats.go (K := K) fl
  exact ⟨_, .ref p, h, rfl, fun B => .tup (.inr ⟨_, us.toArray, n, l, rfl, rfl, by rw [List.size_toArray]; exact Nat.le_trans hz (by decide), by simpa using h1⟩) (h2 B)⟩
theorem ev_chain {op op' : CmpOp} {r r' : R2} {g g' : D → D → Option D} {f1 f2 f3 : M D} (ho : OpR X (compareOp op) r) (hr : OpD X.K r g) (ho' : OpR X (compareOp op') r') (hr' : OpD X.K r' g') (ha : EV X W a f1) (hb : EV X W b f2) (hc : EV X W c f3)
    (hm : lastMarks [op, op'] [b, c] = false := by with_unfolding_all rfl) : EV X W (.Compare a [op, op'] [b, c] pos) (mChain g g' f1 f2 f3) := by
  intro F ρ σ B H Q L P
  refine PE.we (pe_chain ho ho' pe_we pe_we pe_we hm) ?_
  refine ha F ρ σ B H _ L ((Post.bind P).imp fun dx ρ1 B1 H1 e1 L1 P1 x fx => ?_)
  refine hb F ρ1 σ B1 H1 _ L1 ((Post.bind P1).imp fun dy ρ2 B2 H2 e2 L2 P2 y fy => ?_)
  obtain ⟨z, hz, k⟩ := (Post.bind P2).opt
  refine hr x y dx dy z B2 H2 _ L2.ex (fx.mono e2) fy hz (L2.grow fun B' H' e' L' v fv => ?_)
  have P3 := k B' H' e' L'
  split at P3
  · cases fv
    refine ⟨true, rfl, ?_⟩
    rw [if_pos rfl]
    refine hc F ρ2 σ B' H' _ L' ((Post.bind P3).imp fun dw ρ3 B3 H3 e3 L3 P4 w fw => ?_)
    obtain ⟨d, hd, k2⟩ := P4.opt
    exact hr' y w dy dw d B3 H3 Q L3.ex ((fy.mono e').mono e3) fw hd (L3.grow k2)
  · cases fv
    refine ⟨false, rfl, ?_⟩
    rw [if_neg Bool.false_ne_true]
    exact P3 B' H' (Ex.refl _) L' _ (.bl false)
  · exact P3.elim
def cutD (xs : List D) (lo hi : Option Int) : List D := (xs.drop (HT.sIx xs.length 0 lo)).take (HT.sIx xs.length xs.length hi - HT.sIx xs.length 0 lo)
theorem Fzs.cut {B : Hp} {vs : List V} {ds : List D} (h : Fzs K B vs ds) (lo hi : Option Int) : Fzs K B (cutV vs lo hi) (cutD ds lo hi) := by
  unfold cutV cutD
  rw [h.len]
  exact (h.drop _).take _
def asOI : Option D → Option (Option Int)
  | none => some none
  | some (.int i) => some (some i)
  | some _ => none
def mPart (f : Option (M D)) : M (Option Int) := match f with
  | none => M.pure none
  | some f => M.bind f fun d => M.opt (match d with
    | .int i => some (some i)
    | _ => none)
def EP' (X : Cx) (W : WX) (e : Option Expr) (f : M (Option Int)) : Prop := ∃ t, PO X e t ∧ ∀ (F : Fr) (ρ : Env) (σ : St) (B H : Hp) (Q : Option Int → Hp → Prop), Lv X.K F ρ σ B H → Post X W F σ B (f ρ) (fun o _ _ H' => Q o H') → t σ H Q
theorem ep_none : EP' X W none (mPart none) := ⟨_, po_none, fun F ρ σ B H Q L P => P B H (Ex.refl _) L⟩
theorem ep_some {f : M D} (h : EV X W e f) : EP' X W (some e) (mPart (some f)) := ⟨_, po_some pe_we, fun F ρ σ B H Q L P => by
  refine h F ρ σ B H _ L ((Post.bind P).imp fun d ρ1 B1 H1 e1 L1 P1 v fv => ?_)
  obtain ⟨o, ho, k⟩ := P1.opt
  split at ho
  · cases fv
    injection ho with ho; subst ho
    exact ⟨_, rfl, k B1 H1 (Ex.refl _) L1⟩
  · cases ho⟩
def dSl (d : D) (lo hi : Option Int) : Option (D × Ob) := match d with
  | .lst xs => some (.lst (cutD xs lo hi), .tt)
  | .tup xs => some (.tup (cutD xs lo hi), .ff)
  | _ => none
def mSl (f : M D) (fl fh : M (Option Int)) : M (D × Ob) := M.bind f fun d => M.bind fl fun lo => M.bind fh fun hi => M.opt (dSl d lo hi)
theorem cut_all {xs : List D} {lo hi : Option Int} (h : HT.sIx xs.length 0 lo = 0 ∧ HT.sIx xs.length xs.length hi = xs.length) : cutD xs lo hi = xs := by
  unfold cutD
  rw [h.1, h.2, List.drop_zero, Nat.sub_zero, List.take_length]
theorem eo_slice {lo hi : Option Expr} {p2 : Pos} {f : M D} {fl fh : M (Option Int)} (he : EV X W e f) (hl : EP' X W lo fl) (hh : EP' X W hi fh) : EO X W (.Subscript e (.Slice lo hi none p2) pos) (mSl f fl fh) := by
  obtain ⟨tl, pl, hl⟩ := hl
  obtain ⟨th, ph, hh⟩ := hh
  intro F ρ σ B H Q L P
  refine PE.we (pe_slice (sl_list.or sl_tupA) pe_we pl ph) ?_
  refine he F ρ σ B H _ L ((Post.bind P).imp fun d ρ1 B1 H1 e1 L1 P1 v fv => ?_)
  refine hl F ρ1 σ B1 H1 _ L1 ((Post.bind P1).imp fun l ρ2 B2 H2 e2 L2 P2 => ?_)
  refine hh F ρ2 σ B2 H2 _ L2 ((Post.bind P2).imp fun u ρ3 B3 H3 e3 L3 P3 => ?_)
  obtain ⟨p, hp, k⟩ := P3.opt
  have fv3 := (fv.mono e2).mono e3
  cases fv3 with
  | @lst a xs ds h fs =>
    injection hp with hp; subst hp
    refine .inl ⟨a, xs, rfl, .inl (.inl (L3.ex _ _ h)), fun q hq => ?_⟩
    obtain ⟨L4, v4⟩ := L3.newL hq (fs.cut l u)
    exact k B3 _ (Ex.refl _) L4 _ v4
  | @tup a xs ds h fs =>
    injection hp with hp; subst hp
    refine .inr ⟨a, xs, rfl, L3.ex.st h, fun hw => ?_, fun _ q hq => ?_⟩
    · have e : cutD ds l u = ds := cut_all (by rw [← fs.len]; exact hw)
      rw [e] at k
      exact k B3 H3 (Ex.refl _) L3 _ (show Fz X.K B3 (.ref a) (.tup ds) from .tup h fs)
    · exact k _ _ (Ex.new (L3.ex.nn hq)) (L3.alloc hq) _ (show Fz X.K _ (.ref q) _ from .tup (.inl (.inl upd_same)) ((fs.cut l u).mono (Ex.new (L3.ex.nn hq))))
  | _ => cases hp
def mRevL (f : M D) : M (D × Ob) := M.bind f fun d => M.opt (match d with
  | .lst xs => some (.lst xs.reverse, .tt)
  | _ => none)
variable {tg : Expr}
def mZip (f : M (List D)) : M (List D) := M.bind f fun ds => M.opt (match ds with
  | [.lst xs, .lst ys] => some (List.zipWith (fun x y => D.tup [x, y]) xs ys)
  | _ => none)
theorem it_zip {p q : Addr} {xs ys : List V} {B : Hp} {ds es : List D} (h1 : B p = some (.lst xs)) (f1 : Fzs K B xs ds) (h2 : B q = some (.lst ys)) (f2 : Fzs K B ys es) : ItOk K (Itz K p q) B (List.zipWith (fun x y => D.tup [x, y]) ds es) where
  go := fun B' H' i e1 e2 hi => by
    rw [List.length_zipWith] at hi
    have hi1 : i < xs.length := by rw [f1.len]; omega
    have hi2 : i < ys.length := by rw [f2.len]; omega
    exact ⟨xs, ys, xs[i], ys[i], .inl (.inl (e2 _ _ (e1 _ _ h1))), .inl (.inl (e2 _ _ (e1 _ _ h2))), List.getElem?_eq_getElem hi1, List.getElem?_eq_getElem hi2⟩
  stop := fun B' H' i e1 e2 hi => by
    rw [List.length_zipWith] at hi
    refine ⟨xs, ys, .inl (.inl (e2 _ _ (e1 _ _ h1))), .inl (.inl (e2 _ _ (e1 _ _ h2))), ?_⟩
    rw [f1.len, f2.len]; omega
  yld := fun B' H' i x H3 d e1 e2 y hd => by
    obtain ⟨T, u, v, rfl, hT, rfl, hu, hv⟩ := y
    have h3 := hu xs (.inl (.inl (e2 _ _ (e1 _ _ h1))))
    have h4 := hv ys (.inl (.inl (e2 _ _ (e1 _ _ h2))))
    obtain ⟨d1, hd1, g1⟩ := f1.getV h3
    obtain ⟨d2, hd2, g2⟩ := f2.getV h4
    rw [List.getElem?_zipWith, hd1, hd2] at hd
    injection hd with hd; subst hd
    refine .inr (.inl ⟨T, _, hT, rfl, .tup (.inl (.inl upd_same)) ?_⟩)
    have en : Ex B' (upd B' T (.tup [u, v])) := Ex.new (e2.nn hT)
    exact .cons ((g1.mono e1).mono en) (.cons ((g2.mono e1).mono en) .nil)
theorem iv_zip {e e2 : Expr} {p tpos : Pos} {elts : List Expr} {kk : Nat} {f : M (List D)} (hm : X.mg "zip" = none) (ha : EA X W [e, e2] f) (hg : Gl X "zip" := by rfl)
    (hs : starEach [e, e2] X.env = (false, eval e X.env) :: starEach [e2] X.env := by rfl) (hpl : (backTo pos (starEach [e2] X.env)).any (·.1) = false := by rfl) : IV X W (.Tuple elts kk tpos) (.Call (.Name "zip" p) [e, e2] [] pos) (mZip f) := by
  intro F ρ σ B H R L P
  refine PI.wi (pi_zip hg hm pa_wa hs hpl) ?_
  refine ha F ρ σ B H _ L ((Post.bind P).imp fun ds ρ1 B1 H1 e1 L1 P1 vs fs => ?_)
  obtain ⟨zs, hd, k⟩ := P1.opt
  split at hd
  · injection hd with hd; subst hd
    cases fs with
    | cons f1 fs => cases fs with
      | cons f2 fs =>
        cases fs
        cases f1 with
        | lst h1 g1 => cases f2 with
          | lst h2 g2 => exact ⟨_, _, _, _, rfl, .inl (.inl (L1.ex _ _ h1)), .inl (.inl (L1.ex _ _ h2)), k B1 H1 (Ex.refl _) L1 _ (it_zip h1 g1 h2 g2)⟩
  · cases hd
def enumD (k : Nat) : List D → List D
  | [] => []
  | d :: r => .tup [.int (k : Nat), d] :: enumD (k + 1) r
theorem enumD_len : ∀ (k : Nat) (ds : List D), (enumD k ds).length = ds.length
  | _, [] => rfl
  | k, d :: r => by show (enumD (k + 1) r).length + 1 = _; rw [enumD_len]; rfl
theorem enumD_get : ∀ (k : Nat) (ds : List D) (i : Nat), (enumD k ds)[i]? = (ds[i]?).map fun d => D.tup [.int ((k + i : Nat) : Int), d]
  | _, [], i => by simp [enumD]
  | k, d :: r, 0 => by simp [enumD]
  | k, d :: r, i + 1 => by
    show (enumD (k + 1) r)[i]? = _
    rw [enumD_get (k + 1) r i]
    show _ = (r[i]?).map _
    rw [show k + 1 + i = k + (i + 1) by omega]
def mEnum (f : M (List D)) : M (List D) := M.bind f fun ds => M.opt (match ds with
  | [.lst xs] => some (enumD 0 xs)
  | _ => none)
theorem it_enum {p : Addr} {xs : List V} {B : Hp} {ds : List D} (h1 : B p = some (.lst xs)) (f1 : Fzs K B xs ds) : ItOk K (Ite K p) B (enumD 0 ds) where
  go := fun B' H' i e1 e2 hi => by
    rw [enumD_len] at hi
    have hi1 : i < xs.length := by rw [f1.len]; omega
    exact ⟨xs, xs[i], .inl (.inl (e2 _ _ (e1 _ _ h1))), List.getElem?_eq_getElem hi1⟩
  stop := fun B' H' i e1 e2 hi => by
    rw [enumD_len] at hi
    exact ⟨xs, .inl (.inl (e2 _ _ (e1 _ _ h1))), by rw [f1.len]; omega⟩
  yld := fun B' H' i x H3 d e1 e2 y hd => by
    obtain ⟨T, u, rfl, hT, rfl, hu⟩ := y
    have h3 := hu xs (.inl (.inl (e2 _ _ (e1 _ _ h1))))
    obtain ⟨d1, hd1, g1⟩ := f1.getV h3
    rw [enumD_get, hd1] at hd
    injection hd with hd; subst hd
    refine .inr (.inl ⟨T, _, hT, rfl, .tup (.inl (.inl upd_same)) ?_⟩)
    have en : Ex B' (upd B' T (.tup [.int (i : Nat), u])) := Ex.new (e2.nn hT)
    rw [Nat.zero_add]
    exact .cons (.int _) (.cons ((g1.mono e1).mono en) .nil)
theorem iv_enum {e : Expr} {p tpos : Pos} {elts : List Expr} {kk : Nat} {f : M (List D)} (hm : X.mg "enumerate" = none) (ha : EA X W [e] f) (hg : Gl X "enumerate" := by rfl)
    (hs : starEach [e] X.env = [(false, eval e X.env)] := by rfl) : IV X W (.Tuple elts kk tpos) (.Call (.Name "enumerate" p) [e] [] pos) (mEnum f) := by
  intro F ρ σ B H R L P
  refine PI.wi (pi_enum hg hm pa_wa hs) ?_
  refine ha F ρ σ B H _ L ((Post.bind P).imp fun ds ρ1 B1 H1 e1 L1 P1 vs fs => ?_)
  obtain ⟨zs, hd, k⟩ := P1.opt
  split at hd
  · injection hd with hd; subst hd
    cases fs with
    | cons f1 fs =>
      cases fs
      cases f1 with
      | lst h1 g1 => exact ⟨_, _, rfl, .inl (.inl (L1.ex _ _ h1)), k B1 H1 (Ex.refl _) L1 _ (it_enum h1 g1)⟩
  · cases hd
def mListOf (f : M (List D)) : M (D × Ob) := M.bind f fun ds => M.opt (match ds with
  | [.lst xs] => some (.lst xs, .tt)
  | [.tup xs] => some (.lst xs, .tt)
  | _ => none)
theorem eo_listOf {p : Pos} {f : M (List D)} (hm : X.mg "list" = none) (ha : EA X W [a] f) (hg : Gl X "list" := by rfl) (he : starEach (a :: []) X.env = (false, eval a X.env) :: starEach [] X.env := by rfl) : EO X W (.Call (.Name "list" p) [a] [] pos) (mListOf f) := by
  intro F ρ σ B H Q L P
  refine PE.we (pe_callTy call_list_of hg hm (by decide +kernel) pa_wa (by decide) (by decide) he rfl) ?_
  refine ha F ρ σ B H _ L ((Post.bind P).imp fun ds ρ1 B1 H1 e1 L1 P1 vs fs => ?_)
  obtain ⟨p, hp, k⟩ := P1.opt
  split at hp
  · injection hp with hp; subst hp
    cases fs with
    | cons f1 fs =>
      cases fs
      cases f1 with
      | lst h1 g1 =>
        refine ⟨_, _, rfl, .inl (.inl (.inl (L1.ex _ _ h1))), fun q hq => ?_⟩
        obtain ⟨L4, v4⟩ := L1.newL hq g1
        exact k B1 _ (Ex.refl _) L4 _ v4
  · injection hp with hp; subst hp
    cases fs with
    | cons f1 fs =>
      cases fs
      cases f1 with
      | tup h1 g1 =>
        refine ⟨_, _, rfl, .inr (L1.ex.st h1), fun q hq => ?_⟩
        obtain ⟨L4, v4⟩ := L1.newL hq g1
        exact k B1 _ (Ex.refl _) L4 _ v4
  · cases hp
def asInts : List D → Option (List Int)
  | [] => some []
  | .int i :: r => (asInts r).map (i :: ·)
  | _ => none
theorem asInts_eq : ∀ {ds : List D} {ns : List Int}, asInts ds = some ns → ds = ns.map D.int
  | [], ns, h => by injection h with h; subst h; rfl
  | .int i :: r, ns, h => by
    have h' : (asInts r).map (i :: ·) = some ns := h
    cases q : asInts r with
    | none => rw [q] at h'; cases h'
    | some ms => rw [q] at h'; injection h' with h'; subst h'; rw [List.map_cons, asInts_eq q]
  | .non :: _, _, h => by cases h
  | .bl _ :: _, _, h => by cases h
  | .str _ :: _, _, h => by cases h
  | .lst _ :: _, _, h => by cases h
  | .tup _ :: _, _, h => by cases h
  | .scr _ :: _, _, h => by cases h
  | .dic _ _ :: _, _, h => by cases h
theorem asInts_map : ∀ ns : List Int, asInts (ns.map D.int) = some ns
  | [] => rfl
  | n :: ns => by show (asInts (ns.map D.int)).map (n :: ·) = _; rw [asInts_map ns]; rfl
def dSum : List D → Option D
  | [.lst xs] => (asInts xs).map fun ns => .int ns.sum
  | _ => none
def maxI : List Int → Option Int
  | [] => none
  | n :: ns => some (ns.foldl max n)
def minI : List Int → Option Int
  | [] => none
  | n :: ns => some (ns.foldl min n)
def dMaxL : List D → Option D
  | [.lst xs] => ((asInts xs).bind maxI).map D.int
  | _ => none
def dMinL : List D → Option D
  | [.lst xs] => ((asInts xs).bind minI).map D.int
  | _ => none
theorem foldl_max (n : Int) (ns : List Int) : (ns.foldl max n = n ∨ ns.foldl max n ∈ ns) ∧ n ≤ ns.foldl max n ∧ ∀ m ∈ ns, m ≤ ns.foldl max n := by
  induction ns generalizing n with
  | nil => exact ⟨.inl rfl, Int.le_refl _, fun m h => by cases h⟩
  | cons k ns ih =>
    obtain ⟨h1, h2, h3⟩ := ih (max n k)
    rw [List.foldl_cons]
    refine ⟨?_, by omega, fun m hm => ?_⟩
    · rcases h1 with h1 | h1
      · rw [h1]
        by_cases q : n ≤ k
        · right; rw [show max n k = k by omega]; exact List.mem_cons_self
        · left; omega
      · right; exact List.mem_cons_of_mem _ h1
    · rcases List.mem_cons.mp hm with rfl | hm
      · omega
      · exact h3 m hm
theorem foldl_min (n : Int) (ns : List Int) : (ns.foldl min n = n ∨ ns.foldl min n ∈ ns) ∧ ns.foldl min n ≤ n ∧ ∀ m ∈ ns, ns.foldl min n ≤ m := by
  induction ns generalizing n with
  | nil => exact ⟨.inl rfl, Int.le_refl _, fun m h => by cases h⟩
  | cons k ns ih =>
    obtain ⟨h1, h2, h3⟩ := ih (min n k)
    rw [List.foldl_cons]
    refine ⟨?_, by omega, fun m hm => ?_⟩
    · rcases h1 with h1 | h1
      · rw [h1]
        by_cases q : k ≤ n
        · right; rw [show min n k = k by omega]; exact List.mem_cons_self
        · left; omega
      · right; exact List.mem_cons_of_mem _ h1
    · rcases List.mem_cons.mp hm with rfl | hm
      · omega
      · exact h3 m hm
theorem fz_ints {B : Hp} {v : V} {xs : List D} {ns : List Int} (f : Fz K B v (.lst xs)) (h : asInts xs = some ns) : ∃ p, v = .ref p ∧ B p = some (.lst (ns.map V.int)) := by
  cases f with
  | lst h1 g1 =>
    rw [asInts_eq h] at g1
    rw [g1.ints] at h1
    exact ⟨_, rfl, h1⟩
theorem cd_sum : CallD K (rSum K) dSum := by
  intro xs ds d B H Q ex fs h g
  unfold dSum at h
  split at h
  · cases q : asInts _ with
    | none => rw [q] at h; cases h
    | some ns =>
      rw [q] at h; injection h with h; subst h
      cases fs with
      | cons f1 fs =>
        cases fs
        obtain ⟨p, rfl, hp⟩ := fz_ints f1 q
        exact ⟨p, ns, rfl, .inl (.inl (ex _ _ hp)), g.1 _ (.int _)⟩
  · cases h
theorem cd_maxL : CallD K (rMax K) dMaxL := by
  intro xs ds d B H Q ex fs h g
  unfold dMaxL at h
  split at h
  · cases q : asInts _ with
    | none => rw [q] at h; cases h
    | some ns =>
      rw [q] at h
      cases ns with
      | nil => cases h
      | cons n ns =>
        injection h with h; subst h
        cases fs with
        | cons f1 fs =>
          cases fs
          obtain ⟨p, rfl, hp⟩ := fz_ints f1 q
          refine ⟨p, n :: ns, rfl, .inl (.inl (ex _ _ hp)), by rw [List.length_cons]; omega, fun m hm hle => ?_⟩
          obtain ⟨h1, h2, h3⟩ := foldl_max n ns
          have e : m = ns.foldl max n := by
            have a1 : ns.foldl max n ≤ m := by
              rcases h1 with h1 | h1
              · rw [h1]; exact hle n List.mem_cons_self
              · exact hle _ (List.mem_cons_of_mem _ h1)
            have a2 : m ≤ ns.foldl max n := by
              rcases List.mem_cons.mp hm with z | z
              · omega
              · exact h3 m z
            omega
          rw [e]
          exact g.1 _ (.int _)
  · cases h
theorem cd_minL : CallD K (rMin K) dMinL := by
  intro xs ds d B H Q ex fs h g
  unfold dMinL at h
  split at h
  · cases q : asInts _ with
    | none => rw [q] at h; cases h
    | some ns =>
      rw [q] at h
      cases ns with
      | nil => cases h
      | cons n ns =>
        injection h with h; subst h
        cases fs with
        | cons f1 fs =>
          cases fs
          obtain ⟨p, rfl, hp⟩ := fz_ints f1 q
          refine ⟨p, n :: ns, rfl, .inl (.inl (ex _ _ hp)), by rw [List.length_cons]; omega, fun m hm hle => ?_⟩
          obtain ⟨h1, h2, h3⟩ := foldl_min n ns
          have e : m = ns.foldl min n := by
            have a1 : m ≤ ns.foldl min n := by
              rcases h1 with h1 | h1
              · rw [h1]; exact hle n List.mem_cons_self
              · exact hle _ (List.mem_cons_of_mem _ h1)
            have a2 : ns.foldl min n ≤ m := by
              rcases List.mem_cons.mp hm with z | z
              · omega
              · exact h3 m z
            omega
          rw [e]
          exact g.1 _ (.int _)
  · cases h
variable {p : Pos} {fa : M (List D)}
theorem ev_sum (hc : X.calm = true) (hm : X.mg "sum" = none) (ha : EA X W [a] fa) (hg : Gl X "sum" := by rfl) (he : starEach (a :: []) X.env = (false, eval a X.env) :: starEach [] X.env := by rfl) : EV X W (.Call (.Name "sum" p) [a] [] pos) (mCall dSum fa) := ev_callB (cr_sum hc) cd_sum hg hm (by decide +kernel) ha (by decide) (by decide) he
theorem ev_maxL (hc : X.calm = true) (hm : X.mg "max" = none) (ha : EA X W [a] fa) (hg : Gl X "max" := by rfl) (he : starEach (a :: []) X.env = (false, eval a X.env) :: starEach [] X.env := by rfl) : EV X W (.Call (.Name "max" p) [a] [] pos) (mCall dMaxL fa) := ev_callB (cr_max hc) cd_maxL hg hm (by decide +kernel) ha (by decide) (by decide) he
theorem ev_minL (hc : X.calm = true) (hm : X.mg "min" = none) (ha : EA X W [a] fa) (hg : Gl X "min" := by rfl) (he : starEach (a :: []) X.env = (false, eval a X.env) :: starEach [] X.env := by rfl) : EV X W (.Call (.Name "min" p) [a] [] pos) (mCall dMinL fa) := ev_callB (cr_min hc) cd_minL hg hm (by decide +kernel) ha (by decide) (by decide) he
def chkL (i : Nat) : M Unit := fun ρ => match ρ[i]? with
  | some (.ow (.lst _)) => .ok () ρ
  | some (.io (.lst _)) => .ok () ρ
  | _ => .fail
theorem Lv.chkL {F : Fr} {ρ : Env} {σ : St} {B H : Hp} {i : Nat} (L : Lv K F ρ σ B H) (h : Dt.chkL i ρ ≠ .fail) : Dt.chkL i ρ = .ok () ρ ∧ ∃ a vs, σ[i]? = some (some (.ref a)) ∧ H a = some (.lst vs) := by
  unfold Dt.chkL at h ⊢
  split at h
  · rename_i d q
    obtain ⟨a, e1, w, _⟩ := L.ow i _ q rfl
    obtain ⟨_, vs, h1, _⟩ := w
    exact ⟨by simp only [q], _, _, e1, h1⟩
  · rename_i d q
    obtain ⟨a, e1, w, _⟩ := L.ow i _ q rfl
    obtain ⟨_, vs, h1, _⟩ := w
    exact ⟨by simp only [q], _, _, e1, h1⟩
  · exact absurd rfl h
def mUpd (i : Nat) (h : List D → Option (List D)) : M Fl := fun ρ => match ρ[i]? with
  | some (.ow (.lst ds)) => match h ds with
    | some ds' => .ok .nx (ρ.set i (.ow (.lst ds')))
    | none => .fail
  | some (.io (.lst ds)) => match h ds with
    | some ds' => .ok .nx (ρ.set i (.io (.lst ds')))
    | none => .fail
  | _ => .fail
theorem Lv.upd1 {F : Fr} {ρ : Env} {σ : St} {B H : Hp} {i : Nat} {h : List D → Option (List D)} {N : Ends} {aa : Addr} (L : Lv X.K F ρ σ B H) (ev : σ[i]? = some (some (.ref aa))) (P : PostS X W F B (mUpd i h ρ) N) :
    ∃ vs ds ds', H aa = some (.lst vs) ∧ Fzs X.K B vs ds ∧ h ds = some ds' ∧ ∀ vs', Fzs X.K B vs' ds' → N.nx σ (upd H aa (.lst vs')) := by
  have go : ∀ {s : Slot} {ds : List D}, ρ[i]? = some s → flat s = true → s.dat = .lst ds → (∀ ds', h ds = some ds' → PostS X W F B (.ok .nx (ρ.set i (reslot ρ[i]? (.lst ds')))) N) → (h ds = none → False) → ∃ vs ds ds', H aa = some (.lst vs) ∧ Fzs X.K B vs ds ∧ h ds = some ds' ∧ ∀ vs', Fzs X.K B vs' ds' → N.nx σ (upd H aa (.lst vs')) := by
    intro s ds q ho hd P2 nf
    obtain ⟨a', vs, h1, h2, fs, st⟩ := L.setAt (ds' := ds) q ho hd
    rw [ev] at h1; injection h1 with h1; injection h1 with h1; injection h1 with h1; subst h1
    cases q2 : h ds with
    | none => exact (nf q2).elim
    | some ds' => exact ⟨vs, ds, ds', h2, fs, q2, fun vs' f' => P2 ds' q2 σ B _ (Ex.refl _) (st vs' ds' f')⟩
  unfold mUpd at P
  split at P
  · rename_i ds q
    refine go q rfl rfl (fun ds' z => ?_) (fun z => ?_)
    · rw [q]; simp only [z] at P; exact P
    · simp only [z] at P; exact P
  · rename_i ds q
    refine go q rfl rfl (fun ds' z => ?_) (fun z => ?_)
    · rw [q]; simp only [z] at P; exact P
    · simp only [z] at P; exact P
  · exact P.elim
def mApp1 (i : Nat) (fe : M D) : M Fl := M.bind (chkL i) fun _ => M.bind fe fun d => mUpd i fun ds => if ds.length < 10000 then some (ds ++ [d]) else none
theorem sv_app {i : Nat} {x : Str} {px apos cpos : Pos} {fe : M D} (he : EV X W e fe) (hN : X.N[i]? = some x := by rfl) (hv : Vis X.env.scope x := by first | exact Or.inl rfl | exact Or.inr (Or.inl rfl) | exact Or.inr (Or.inr rfl)) (hd : (x == ("__debug__" : Str)) = false := by decide)
    (hcd : (x == ("__classdict__" : Str)) = false := by decide) (hbase : attributeBase (.Name x px) "append" X.env (eval (.Name x px) X.env) = eval (.Name x px) X.env := by rfl)
    (hfew : ((backTo cpos (starEach (e :: []) X.env)).all (fun x => !x.1) && (backToKw cpos (keywordEach [] X.env)).all (fun x => x.1.isSome)
      && decide ((e :: []).length + ([] : List Keyword).length + (if ([] : List Keyword).isEmpty then 0 else 1) < 30)) = true := by rfl)
    (hline : (apos.endLine == cpos.line) = true := by rfl) (hs : starEach (e :: []) X.env = (false, eval e X.env) :: starEach [] X.env := by rfl)
    (hsw : swapsWith (.Call (.Attribute (.Name x px) "append" apos) [e] [] cpos) none pos.line X.env = pure false := by rfl) : SV X W (.Expr (.Call (.Attribute (.Name x px) "append" apos) [e] [] cpos) pos) (mApp1 i fe) := by
  intro F ρ σ B H N L P
  refine PS.ws (ps_expr (pe_bm PySem.F.plainAttrs_list PySem.F.slot_list_append PySem.F.type_list_append mt_append (pe_var hN hv hd hcd) (pa_cons pe_we pa_nil hs) hbase hfew hline hs rfl) hsw) ?_
  have P0 : PostS X W F B ((M.bind (chkL i) fun _ => M.bind fe fun d => mUpd i fun ds => if ds.length < 10000 then some (ds ++ [d]) else none) ρ) N := P
  have hne : chkL i ρ ≠ .fail := fun z => by unfold M.bind at P0; simp only [z] at P0; exact P0.elim
  obtain ⟨hck, aa, vs, ev, hl⟩ := L.chkL hne
  unfold M.bind at P0
  simp only [hck] at P0
  refine ⟨_, ev, .inl ⟨rfl, vs, .inl (.inl hl)⟩, ?_⟩
  refine he F ρ σ B H _ L ((PostS.bind (σ := σ) P0).imp fun d ρ1 B1 H1 e1 L1 P1 v fv => ?_)
  obtain ⟨vs1, ds1, ds2, h1, fs, h2, k⟩ := L1.upd1 ev P1
  split at h2
  · rename_i hz
    injection h2 with h2; subst h2
    exact ⟨aa, vs1, v, rfl, rfl, h1, lt_line (by rw [fs.len]; exact hz), k _ (fs.append (.cons fv .nil))⟩
  · cases h2
def mAugI (i : Nat) (h : Int → Int → Int) (f : M D) : M Fl := M.bind (chk i) fun _ => M.bind f fun d ρ => match ρ[i]?, d with
  | some (.fz (.int z)), .int y => .ok .nx (ρ.set i (.fz (.int (h z y))))
  | _, _ => .fail
end
end Dt
namespace Dt
open PySem PySem.Spec PyProof.Rows L2
section
variable {X : Cx} {W : WX} {e a b : Expr} {fa : M (List D)} {p pos : Pos} {K : PySem.W.Frag}
theorem sv_raiseV {x : Str} {fe : M D} {p3 : Pos} (hc : X.calm = true) (tk : Takes X W) (T : ExC X.K X.mg x) (he : EV X W e fe) (hg : Gl X x := by rfl) (hs : starEach [e] X.env = (false, eval e X.env) :: starEach [] X.env := by rfl) (hdb : (x == ("__debug__" : Str)) = false := by decide) :
    SV X W (.Raise (some (.Call (.Name x p) [e] [] p3)) none pos) (M.bind fe fun _ => M.raise x) := by
  obtain ⟨C, gC, xC, kC, bC, tC⟩ := T
  intro F ρ σ B H N L P
  refine PS.ws (ps_raise hc tk (SkE.pmk_own1 PySem.F.excBase_ValueError xC gC kC (raises_own bC tC) hg pe_we hs hdb)) ?_
  refine he F ρ σ B H _ L ((PostS.bind (σ := σ) P).imp fun d ρ1 B1 H1 e1 L1 P1 v fv => ?_)
  have h := P1 σ B1 H1 (Ex.refl _) L1
  unfold cv at h
  rw [gC] at h
  exact h
end
end Dt
namespace Dt
open PySem PySem.Spec PyProof.Rows L2
section
variable {X : Cx} {W : WX} {e a b kx : Expr} {f1 f2 fe fk : M D} {p p2 pos : Pos} {K : PySem.W.Frag} {F : Fr} {ρ : Env} {σ : St} {B H : Hp} {i : Nat} {x : Str}
def mListRg1 (f1 : M D) : M (D × Ob) := M.bind f1 fun d => M.opt (match d with
  | .int j => if -10000 < j ∧ j < 10000 then some (.lst (rangeD 0 j), .tt) else none
  | _ => none)
def mListRg2 (f1 f2 : M D) : M (D × Ob) := M.bind f1 fun c => M.bind f2 fun d => M.opt (match c, d with
  | .int i, .int j => if (-10000 < i ∧ i < 10000) ∧ (-10000 < j ∧ j < 10000) then some (.lst (rangeD i j), .tt) else none
  | _, _ => none)
def mUpdE (i : Nat) (h : List D → Option (D × List D)) : M D := fun ρ => match ρ[i]? with
  | some (.ow (.lst ds)) => match h ds with
    | some (d, ds') => .ok d (ρ.set i (.ow (.lst ds')))
    | none => .fail
  | some (.io (.lst ds)) => match h ds with
    | some (d, ds') => .ok d (ρ.set i (.io (.lst ds')))
    | none => .fail
  | _ => .fail
def popD (k : D) (ds : List D) : Option (D × List D) := match k with
  | .int z => if ds.length ≤ 10000 then (ixN ds.length z).bind fun j => (ds[j]?).map fun d => (d, ds.eraseIdx j) else none
  | _ => none
def mPopAt (i : Nat) (fk : M D) : M D := M.bind (chkL i) fun _ => M.bind fk fun k => mUpdE i (popD k)
def mExt (i : Nat) (fe : M D) : M Fl := M.bind (chkL i) fun _ => M.bind fe fun d => mUpd i fun ds => match d with
  | .lst es => if ds.length + es.length ≤ 100000 then some (ds ++ es) else none
  | _ => none
def mIns (i : Nat) (fk fe : M D) : M Fl := M.bind (chkL i) fun _ => M.bind fk fun c => M.bind fe fun d => mUpd i fun ds => match c with
  | .int z => if ds.length < 10000 ∧ 0 ≤ z ∧ z < 10000 then some (ds.take z.toNat ++ [d] ++ ds.drop z.toNat) else none
  | _ => none
def getV (k d : D) : Option D := match k with
  | .int z => if 0 ≤ z then dIxL d (.int z) else none
  | _ => none
def mGetV (i : Nat) (k : D) : M D := fun ρ => match (contR ρ[i]?).bind (getV k) with
  | some z => .ok z ρ
  | none => .fail
def augD (h : Int → Int → Int) (c old d : D) (ds : List D) : Option (List D) := match c, old, d with
  | .int z, .int x, .int y => if 0 ≤ z then (ixN ds.length z).map fun j => ds.set j (.int (h x y)) else none
  | _, _, _ => none
def mAugAt (i : Nat) (h : Int → Int → Int) (fk fe : M D) : M Fl := M.bind (chkL i) fun _ => M.bind fk fun c => M.bind (mGetV i c) fun old => M.bind fe fun d => mUpd i (augD h c old d)
def mCatO (f1 f2 : M D) : M (D × Ob) := M.bind f1 fun c => M.bind f2 fun d => M.opt (match c, d with
  | .lst xs, .lst ys => if tooLong (xs.length + ys.length) = true then none else some (.lst (xs ++ ys), .tt)
  | _, _ => none)
theorem eo_cat (ha : EV X W a f1) (hb : EV X W b f2) : EO X W (.BinOp a .Add b pos) (mCatO f1 f2) := by
  intro F ρ σ B H Q L P
  refine PE.we (pe_op op_cat pe_we pe_we) ?_
  refine ha F ρ σ B H _ L ((Post.bind P).imp fun c ρ1 B1 H1 e1 L1 P1 u fu => ?_)
  refine hb F ρ1 σ B1 H1 _ L1 ((Post.bind P1).imp fun d ρ2 B2 H2 e2 L2 P2 v fv => ?_)
  obtain ⟨z, hz, k⟩ := P2.opt
  have fu := fu.mono e2
  split at hz
  · split at hz
    · cases hz
    · rename_i hl
      injection hz with hz; subst hz
      cases fu with
      | lst g1 g2 =>
        cases fv with
        | lst g3 g4 =>
          refine ⟨_, _, _, _, rfl, rfl, L2.ex _ _ g1, L2.ex _ _ g3, by rw [g2.len, g4.len]; exact notLong hl, fun q hq => ?_⟩
          obtain ⟨L4, v4⟩ := L2.newL hq (g2.append g4)
          exact k B2 _ (Ex.refl _) L4 _ v4
  · cases hz
def mRepO (f1 f2 : M D) : M (D × Ob) := M.bind f1 fun c => M.bind f2 fun d => M.opt (match c, d with
  | .lst xs, .int k => if k < 10000 ∧ -10000 < k ∧ xs.length ≤ 1000 then some (.lst (List.replicate k.toNat xs).flatten, .tt) else none
  | _, _ => none)
theorem eo_rep (ha : EV X W a f1) (hb : EV X W b f2) : EO X W (.BinOp a .Mult b pos) (mRepO f1 f2) := by
  intro F ρ σ B H Q L P
  refine PE.we (pe_op op_rep pe_we pe_we) ?_
  refine ha F ρ σ B H _ L ((Post.bind P).imp fun c ρ1 B1 H1 e1 L1 P1 u fu => ?_)
  refine hb F ρ1 σ B1 H1 _ L1 ((Post.bind P1).imp fun d ρ2 B2 H2 e2 L2 P2 v fv => ?_)
  obtain ⟨z, hz, k⟩ := P2.opt
  replace fu := fu.mono e2
  split at hz
  · rename_i xs kk
    split at hz
    · rename_i hk
      injection hz with hz; subst hz
      cases fv
      cases fu with
      | lst g1 g2 =>
        refine ⟨_, kk, _, rfl, rfl, L2.ex _ _ g1, by omega, by omega, ?_, fun q hq => ?_⟩
        · have h1 := hk.2.2
          rw [← g2.len] at h1
          have h2 : kk.toNat ≤ 10000 := by omega
          exact len_line' (Nat.le_trans (Nat.mul_le_mul h1 h2) (by decide))
        · obtain ⟨L4, v4⟩ := L2.newL hq (g2.rep kk.toNat)
          exact k B2 _ (Ex.refl _) L4 _ v4
    · cases hz
  · cases hz
def mIsiL (T : String) (i : Nat) : M D := M.bind (chk i) fun _ ρ => match (contR ρ[i]?).bind (dIsi T) with
  | some z => .ok z ρ
  | none => .fail
end
end Dt
namespace Dt
open PySem L2
def Rs.bnd {α β : Type} (r : Rs α) (g : α → M β) : Rs β := match r with
  | .ok a ρ' => g a ρ'
  | .rz c ρ' => .rz c ρ'
  | .fail => .fail
section
variable {α β : Type} {ρ ρ' : Env} {a : α} {c : Str} {g : α → M β} {f : M α}
@[simp] theorem ok_bnd : (Rs.ok a ρ).bnd g = g a ρ := rfl
@[simp] theorem rz_bnd : (Rs.rz c ρ : Rs α).bnd g = .rz c ρ := rfl
@[simp] theorem fail_bnd : (Rs.fail : Rs α).bnd g = .fail := rfl
@[simp] theorem bind_ap : M.bind f g ρ = (f ρ).bnd g := rfl
@[simp] theorem pure_ap : M.pure a ρ = .ok a ρ := rfl
@[simp] theorem fail_ap : (M.fail : M α) ρ = .fail := rfl
@[simp] theorem opt_some : M.opt (some a) ρ = .ok a ρ := rfl
@[simp] theorem opt_none : (M.opt none : M α) ρ = .fail := rfl
@[simp] theorem raise_ap : (M.raise c : M α) ρ = .rz c ρ := rfl
end
section
variable {i j : Nat} {ρ : Env} {d x y : D} {f f1 f2 f3 : M D} {fs : M (List D)} {fo : M (D × Ob)} {t u : M Bool} {a b : M Fl} {g : D → D → Option D} {g1 : D → Option D} {gs : List D → Option D} {k : Bool}
@[simp] theorem var_ap : mVar i ρ = match ρ[i]? with
  | some (.fz d) => .ok d ρ
  | some (.ow d) => .ok d (ρ.set i (.fz d))
  | some (.dp _ d) => .ok d (ρ.set i (.fz d))
  | _ => .fail := rfl
@[simp] theorem bin_ap : mBin g f1 f2 ρ = (f1 ρ).bnd fun x => M.bind f2 fun y => M.opt (g x y) := rfl
@[simp] theorem un_ap : mUn g1 f ρ = (f ρ).bnd fun x => M.opt (g1 x) := rfl
@[simp] theorem test_ap : mTest f ρ = (f ρ).bnd fun d => M.opt (asBl d) := rfl
@[simp] theorem asBl_bl : asBl (.bl k) = some k := rfl
@[simp] theorem nil_ap : mNil ρ = .ok [] ρ := rfl
@[simp] theorem cons_ap : mCons f fs ρ = (f ρ).bnd fun x => M.bind fs fun xs => M.pure (x :: xs) := rfl
@[simp] theorem call_ap : mCall gs fs ρ = (fs ρ).bnd fun xs => M.opt (gs xs) := rfl
@[simp] theorem tup_ap : mTup fs ρ = (fs ρ).bnd fun xs => M.opt (if xs.length ≤ 10000 then some (.tup xs) else none) := rfl
@[simp] theorem lst_ap : mLst fs ρ = (fs ρ).bnd fun xs => M.opt (if xs.length ≤ 10000 then some (.lst xs, .tt) else none) := rfl
@[simp] theorem mfz_ap : mFz fo ρ = (fo ρ).bnd fun p => M.opt (if p.2.ok = true then some p.1 else none) := rfl
@[simp] theorem mof_ap : mOf f ρ = (f ρ).bnd fun d => M.pure (d, .ff) := rfl
@[simp] theorem move_ap : mMove i ρ = match ρ[i]? with
  | some (.fz d) => .ok (d, .ff) ρ
  | some (.ow d) => .ok (d, .tt) (ρ.set i .un)
  | some (.dp m d) => .ok (d, .dp m) (ρ.set i .un)
  | _ => .fail := rfl
@[simp] theorem and_ap : mAnd t u ρ = (t ρ).bnd fun k => match k with
  | true => u
  | false => M.pure false := rfl
@[simp] theorem or_ap : mOr t u ρ = (t ρ).bnd fun k => match k with
  | true => M.pure true
  | false => u := rfl
@[simp] theorem not_ap : mNot t ρ = (t ρ).bnd fun k => M.pure (!k) := rfl
@[simp] theorem andV_ap : mAndV f1 f2 ρ = (f1 ρ).bnd fun d => match d with
  | .bl true => f2
  | .bl false => M.pure (.bl false)
  | _ => M.fail := rfl
@[simp] theorem orV_ap : mOrV f1 f2 ρ = (f1 ρ).bnd fun d => match d with
  | .bl true => M.pure (.bl true)
  | .bl false => f2
  | _ => M.fail := rfl
@[simp] theorem notV_ap : mNotV f ρ = (f ρ).bnd fun d => match d with
  | .bl k => M.pure (.bl (!k))
  | _ => M.fail := rfl
@[simp] theorem mif_ap {α : Type} {a b : M α} : mIf t a b ρ = (t ρ).bnd fun k => match k with
  | true => a
  | false => b := rfl
@[simp] theorem seq_ap : mSeq a b ρ = (a ρ).bnd fun fl => match fl with
  | .nx => b
  | .bk => M.pure .bk
  | .ct => M.pure .ct
  | .rt d o => M.pure (.rt d o) := rfl
@[simp] theorem mnx_ap : mNx ρ = .ok .nx ρ := rfl
@[simp] theorem set_ap : mSet i fo ρ = (fo ρ).bnd (mPut i) := rfl
@[simp] theorem put_ap {p : D × Ob} : mPut i p ρ = match Slot.of p with
  | some s => .ok .nx (ρ.set i s)
  | none => .fail := rfl
@[simp] theorem ok_ff : Ob.ok .ff = true := rfl
@[simp] theorem ok_tt : Ob.ok .tt = true := rfl
@[simp] theorem ok_dp {m : Mk} : Ob.ok (.dp m) = true := rfl
@[simp] theorem sof_ff : Slot.of (d, .ff) = some (.fz d) := rfl
@[simp] theorem sof_tt : Slot.of (d, .tt) = some (.ow d) := rfl
@[simp] theorem sof_dp {m : Mk} : Slot.of (d, .dp m) = some (.dp m d) := rfl
@[simp] theorem ret_ap : mRet fo ρ = (fo ρ).bnd fun p => M.pure (.rt p.1 p.2) := rfl
@[simp] theorem drop_ap : mDrop f ρ = (f ρ).bnd fun _ => mNx := rfl
@[simp] theorem isi_ap {T : String} : mIsi T f ρ = (f ρ).bnd fun d => M.opt (dIsi T d) := rfl
@[simp] theorem par_ap : mPar i j fs ρ = (fs ρ).bnd fun ds ρ => match ds with
  | [x, y] => .ok .nx ((ρ.set i (.fz x)).set j (.fz y))
  | _ => .fail := rfl
@[simp] theorem asg_ap {h : D → Env → Option Env} : mAsg h f ρ = (f ρ).bnd fun d ρ => match h d ρ with
  | some ρ' => .ok .nx ρ'
  | none => .fail := rfl
@[simp] theorem gN_ap : gN i d ρ = some (ρ.set i (.fz d)) := rfl
@[simp] theorem gsN_ap : gsN [] ρ = some ρ := rfl
@[simp] theorem gsC_ap {h : D → Env → Option Env} {hs : List D → Env → Option Env} {r : List D} : gsC h hs (d :: r) ρ = (h d ρ).bind (hs r) := rfl
@[simp] theorem gT_ap {n : Nat} {hs : List D → Env → Option Env} {ds : List D} : gT n hs (.tup ds) ρ = if ds.length = n then hs ds ρ else none := rfl
@[simp] theorem for_ap {h : D → Env → Option Env} : mFor fs h b ρ = (fs ρ).bnd (mForL h b) := rfl
@[simp] theorem forL_nil {h : D → Env → Option Env} : mForL h b [] ρ = .ok .nx ρ := rfl
theorem forL_cons {h : D → Env → Option Env} {r : List D} : mForL h b (d :: r) ρ = match h d ρ with
    | none => .fail
    | some ρ1 => (b ρ1).bnd fun fl => match fl with
      | .nx => mForL h b r
      | .ct => mForL h b r
      | .bk => mNx
      | .rt d o => M.pure (.rt d o) := rfl
@[simp] theorem range1_ap : mRange1 fs ρ = (fs ρ).bnd fun ds => M.opt (match ds with
  | [.int j] => if -100000000 < j ∧ j < 100000000 then some (rangeD 0 j) else none
  | _ => none) := rfl
@[simp] theorem range2_ap : mRange2 fs ρ = (fs ρ).bnd fun ds => M.opt (match ds with
  | [.int i, .int j] => if (-100000000 < i ∧ i < 100000000) ∧ (-100000000 < j ∧ j < 100000000) then some (rangeD i j) else none
  | _ => none) := rfl
@[simp] theorem iter_ap : mIter f ρ = (f ρ).bnd fun d => M.opt (match d with
  | .lst ds => some ds
  | _ => none) := rfl
@[simp] theorem chk_ap : chk i ρ = match ρ[i]? with
  | some (.ow _) => .ok () ρ
  | some (.io _) => .ok () ρ
  | some (.fz _) => .ok () ρ
  | _ => .fail := rfl
@[simp] theorem peek_ap : mPeek i f ρ = (chk i ρ).bnd fun _ => M.bind f fun k ρ => match (contR ρ[i]?).bind fun d => dIxL d k with
  | some z => .ok z ρ
  | none => .fail := rfl
@[simp] theorem putAt_ap : mPutAt i f1 f2 ρ = (f1 ρ).bnd fun d => M.bind (chk i) fun _ => M.bind f2 fun k ρ => match ρ[i]?, k with
  | some (.ow (.lst ds)), .int z => match ixN ds.length z with
    | some j => .ok .nx (ρ.set i (.ow (.lst (ds.set j d))))
    | none => .fail
  | some (.io (.lst ds)), .int z => match ixN ds.length z with
    | some j => .ok .nx (ρ.set i (.io (.lst (ds.set j d))))
    | none => .fail
  | _, _ => .fail := rfl
variable {fx : M (List AV)} {m : Option Nat} {n : Nat} {h : List D → Rf} {av : AV} {avs : List AV} {ds : List D} {sl : Option Slot}
@[simp] theorem xNil_ap : xNil ρ = .ok [] ρ := rfl
@[simp] theorem xV_ap : xV f fx ρ = (f ρ).bnd fun x => M.bind fx fun xs => M.pure (.v x :: xs) := rfl
@[simp] theorem xS_ap : xS i fx ρ = ((match ρ[i]? with
  | some (.ow _) => Rs.ok () ρ
  | some (.io _) => .ok () ρ
  | _ => .fail) : Rs Unit).bnd fun _ => M.bind fx fun xs => M.pure (.s i :: xs) := rfl
@[simp] theorem callN_ap : mCallN n m h fx ρ = (fx ρ).bnd fun avs ρ => (if avs.length = n then match setup ρ m avs with
  | none => .fail
  | some ds => match h ds with
    | .ok d o out => if o.ok = true then .ok (d, o) (match slotOf m avs with
      | none => ρ
      | some i => ρ.set i (reslot ρ[i]? out)) else .fail
    | .rz c => .rz c (match slotOf m avs with
      | none => ρ
      | some i => ρ.set i .un)
    | .fail => .fail else .fail) := by
  unfold mCallN mCallF
  rw [bind_ap, bind_ap]
  cases q : fx ρ with
  | ok avs ρ1 =>
    simp only [ok_bnd]
    split
    · simp only [opt_some, ok_bnd] <;> rfl
    · rfl
  | rz c ρ1 => rfl
  | fail => rfl
@[simp] theorem setup_nil : setup ρ none [] = some [] := rfl
@[simp] theorem setup_v : setup ρ none (.v d :: avs) = (setup ρ none avs).map (d :: ·) := rfl
@[simp] theorem setup_s : setup ρ (some 0) (.s i :: avs) = (contS ρ[i]?).bind fun d => (setup ρ none avs).map (d :: ·) := rfl
@[simp] theorem setup_vs : setup ρ (some (j + 1)) (.v d :: avs) = (setup ρ (some j) avs).map (d :: ·) := rfl
@[simp] theorem slotOf_n : slotOf none avs = none := slotOf_none avs
@[simp] theorem slotOf_s : slotOf (some 0) (.s i :: avs) = some i := rfl
@[simp] theorem slotOf_v : slotOf (some (j + 1)) (av :: avs) = slotOf (some j) avs := by cases av <;> rfl
@[simp] theorem contS_ow : contS (some (.ow d)) = some d := rfl
@[simp] theorem contS_io : contS (some (.io d)) = some d := rfl
@[simp] theorem contR_ow : contR (some (.ow d)) = some d := rfl
@[simp] theorem contR_io : contR (some (.io d)) = some d := rfl
@[simp] theorem contR_fz : contR (some (.fz d)) = some d := rfl
@[simp] theorem reslot_ow : reslot (some (.ow x)) d = .ow d := rfl
@[simp] theorem reslot_io : reslot (some (.io x)) d = .io d := rfl
@[simp] theorem initS_nil : initS none [] = [] := rfl
@[simp] theorem initS_n : initS none (d :: ds) = .fz d :: initS none ds := rfl
@[simp] theorem initS_0 : initS (some 0) (d :: ds) = .io d :: initS none ds := rfl
@[simp] theorem initS_s : initS (some (j + 1)) (d :: ds) = .fz d :: initS (some j) ds := rfl
@[simp] theorem initE_ap : initE m n ds = initS m ds ++ List.replicate (n - ds.length) .un := rfl
@[simp] theorem fin_n {o : Ob} : fin none d o ρ = .ok d o .non := rfl
@[simp] theorem fin_s {o : Ob} : fin (some j) d o ρ = match ρ[j]? with
    | some (.io out) => .ok d o out
    | _ => .fail := rfl
variable {p q : Int} {xs ys : List D} {s1 s2 : Str} {k1 k2 : Bool}
@[simp] theorem dAdd_i : dAdd (.int p) (.int q) = some (.int (p + q)) := rfl
@[simp] theorem dSub_i : dSub (.int p) (.int q) = some (.int (p - q)) := rfl
@[simp] theorem dMul_i : dMul (.int p) (.int q) = if mulOk p q = true then some (.int (p * q)) else none := rfl
@[simp] theorem dDiv_i : dDiv (.int p) (.int q) = if divOk p q = true then some (.int (p.fdiv q)) else none := rfl
@[simp] theorem dMod_i : dMod (.int p) (.int q) = if modOk p q = true then some (.int (p.fmod q)) else none := rfl
@[simp] theorem dPow_i : dPow (.int p) (.int q) = if powOk p q = true then some (.int (p ^ q.toNat)) else none := rfl
@[simp] theorem dLt_i : dLt (.int p) (.int q) = some (.bl (decide (p < q))) := rfl
@[simp] theorem dLe_i : dLe (.int p) (.int q) = some (.bl (decide (p ≤ q))) := rfl
@[simp] theorem dGt_i : dGt (.int p) (.int q) = some (.bl (decide (q < p))) := rfl
@[simp] theorem dGe_i : dGe (.int p) (.int q) = some (.bl (decide (q ≤ p))) := rfl
@[simp] theorem dNeg_i : dNeg (.int p) = some (.int (-p)) := rfl
@[simp] theorem dEq_i : dEq (.int p) (.int q) = some (.bl (decide (p = q))) := by rw [← Bool.beq_eq_decide_eq]; rfl
@[simp] theorem dNe_i : dNe (.int p) (.int q) = some (.bl (!decide (p = q))) := by rw [← Bool.beq_eq_decide_eq]; rfl
@[simp] theorem dEq_s : dEq (.str s1) (.str s2) = some (.bl (decide (s1 = s2))) := by rw [← Bool.beq_eq_decide_eq]; rfl
@[simp] theorem dNe_s : dNe (.str s1) (.str s2) = some (.bl (!decide (s1 = s2))) := by rw [← Bool.beq_eq_decide_eq]; rfl
@[simp] theorem dIs_b : dIs (.bl k1) (.bl k2) = some (.bl (decide (k1 = k2))) := rfl
@[simp] theorem dIsNot_b : dIsNot (.bl k1) (.bl k2) = some (.bl (!decide (k1 = k2))) := rfl
@[simp] theorem dAbs_i : dAbs [.int p] = some (.int ((p.natAbs : Nat) : Int)) := by
  show some (D.int (if p < 0 then -p else p)) = _
  congr 2
  split <;> omega
@[simp] theorem dLen_l : dLen [.lst xs] = some (.int xs.length) := rfl
@[simp] theorem dLen_t : dLen [.tup xs] = some (.int xs.length) := rfl
@[simp] theorem dLen_c {ns : List Int} : dLen [.scr ns] = some (.int ns.length) := rfl
@[simp] theorem dIx_l : dIx (.lst xs) (.int p) = L2.atI xs p := rfl
@[simp] theorem dIx_t : dIx (.tup xs) (.int p) = L2.atI xs p := rfl
@[simp] theorem dIx_c {ns : List Int} : dIx (.scr ns) (.int p) = (L2.atI ns p).map D.int := rfl
@[simp] theorem dIxL_l : dIxL (.lst xs) (.int p) = L2.atI xs p := rfl
@[simp] theorem at0 {α : Type} {x : α} {xs : List α} : L2.atI (x :: xs) 0 = some x := by
  unfold L2.atI ixN
  simp only [List.length_cons]
  rw [if_pos (by decide), if_pos (by omega)]
  rfl
@[simp] theorem at1 {α : Type} {x y : α} {xs : List α} : L2.atI (x :: y :: xs) 1 = some y := by
  unfold L2.atI ixN
  simp only [List.length_cons]
  rw [if_pos (by decide), if_pos (by omega)]
  rfl
@[simp] theorem ix0 {n : Nat} : ixN (n + 1) 0 = some 0 := by
  unfold ixN
  rw [if_pos (by decide), if_pos (by omega)]; rfl
@[simp] theorem ix1 {n : Nat} : ixN (n + 2) 1 = some 1 := by
  unfold ixN
  rw [if_pos (by decide), if_pos (by omega)]; rfl
theorem mulOk_of {p q : Int} {a b : Nat} (hp : p.natAbs < 2 ^ a) (hq : q.natAbs < 2 ^ b) (h : a + b ≤ 90000000) : mulOk p q = true := by
  unfold mulOk
  rw [decide_eq_true_iff]
  have l : ∀ {n k : Nat}, n < 2 ^ k → n.log2 ≤ k := fun {n k} h => by
    rcases Nat.eq_zero_or_pos n with z | z
    · subst z; simp
    · exact Nat.le_of_lt ((Nat.log2_lt (by omega)).mpr h)
  have h1 := l hp
  have h2 := l hq
  omega
theorem divOk_of {p q : Int} (h0 : q ≠ 0) : divOk p q = true := decide_eq_true h0
@[simp] theorem modOk_of {p q : Int} (h0 : q ≠ 0) : modOk p q = true := by
  unfold modOk
  exact decide_eq_true h0
end
end Dt
namespace Dt
open PySem L2
theorem kit1 : kitB "tuple" "tuple" = some true := by decide +kernel
theorem kit2 : kitB "int" "int" = some true := by decide +kernel
theorem kit3 : kitB "int" "bool" = some false := by decide +kernel
theorem kit4 : kitB "bool" "bool" = some true := by decide +kernel
theorem kit5 : kitB "list" "list" = some true := by decide +kernel
theorem kit6 : kitB "bool" "int" = some true := by decide +kernel
theorem kit7 : kitB "str" "str" = some true := by decide +kernel
section
variable {xs : List D} {i : Int} {k k2 : Bool} {x : Str}
@[simp] theorem isi_tt : dIsi "tuple" (.tup xs) = some (.bl true) := by show (kitB "tuple" "tuple").map D.bl = _; rw [kit1]; rfl
@[simp] theorem isi_ii : dIsi "int" (.int i) = some (.bl true) := by show (kitB "int" "int").map D.bl = _; rw [kit2]; rfl
@[simp] theorem isi_ib : dIsi "bool" (.int i) = some (.bl false) := by show (kitB "int" "bool").map D.bl = _; rw [kit3]; rfl
@[simp] theorem isi_bb : dIsi "bool" (.bl k) = some (.bl true) := by show (kitB "bool" "bool").map D.bl = _; rw [kit4]; rfl
@[simp] theorem isi_ll : dIsi "list" (.lst xs) = some (.bl true) := by show (kitB "list" "list").map D.bl = _; rw [kit5]; rfl
@[simp] theorem isi_bi : dIsi "int" (.bl k) = some (.bl true) := by show (kitB "bool" "int").map D.bl = _; rw [kit6]; rfl
@[simp] theorem isi_ss : dIsi "str" (.str x) = some (.bl true) := by show (kitB "str" "str").map D.bl = _; rw [kit7]; rfl
@[simp] theorem dEq_b : dEq (.bl k) (.bl k2) = some (.bl (k == k2)) := by
  cases k <;> cases k2 <;> rfl
@[simp] theorem dNe_b : dNe (.bl k) (.bl k2) = some (.bl (!(k == k2))) := by
  cases k <;> cases k2 <;> rfl
end
end Dt
namespace Dt
open PySem L2
section
variable {i : Nat} {ρ : Env} {f f1 f2 fk fe : M D} {h : Int → Int → Int} {k d old : D} {ds xs : List D} {z x y : Int}
@[simp] theorem listRg1_ap : mListRg1 f ρ = (f ρ).bnd fun d => M.opt (match d with
  | .int j => if -10000 < j ∧ j < 10000 then some (.lst (rangeD 0 j), .tt) else none
  | _ => none) := rfl
@[simp] theorem listRg2_ap : mListRg2 f1 f2 ρ = (f1 ρ).bnd fun c => M.bind f2 fun d => M.opt (match c, d with
  | .int i, .int j => if (-10000 < i ∧ i < 10000) ∧ (-10000 < j ∧ j < 10000) then some (.lst (rangeD i j), .tt) else none
  | _, _ => none) := rfl
@[simp] theorem popAt_ap : mPopAt i fk ρ = (chkL i ρ).bnd fun _ => M.bind fk fun k => mUpdE i (popD k) := rfl
@[simp] theorem updE_ap {g : List D → Option (D × List D)} : mUpdE i g ρ = match ρ[i]? with
  | some (.ow (.lst ds)) => match g ds with
    | some (d, ds') => .ok d (ρ.set i (.ow (.lst ds')))
    | none => .fail
  | some (.io (.lst ds)) => match g ds with
    | some (d, ds') => .ok d (ρ.set i (.io (.lst ds')))
    | none => .fail
  | _ => .fail := rfl
@[simp] theorem ext_ap : mExt i fe ρ = (chkL i ρ).bnd fun _ => M.bind fe fun d => mUpd i fun ds => match d with
  | .lst es => if ds.length + es.length ≤ 100000 then some (ds ++ es) else none
  | _ => none := rfl
@[simp] theorem ins_ap : mIns i fk fe ρ = (chkL i ρ).bnd fun _ => M.bind fk fun c => M.bind fe fun d => mUpd i fun ds => match c with
  | .int z => if ds.length < 10000 ∧ 0 ≤ z ∧ z < 10000 then some (ds.take z.toNat ++ [d] ++ ds.drop z.toNat) else none
  | _ => none := rfl
@[simp] theorem augI_ap : mAugI i h f ρ = (chk i ρ).bnd fun _ => M.bind f fun d ρ => match ρ[i]?, d with
  | some (.fz (.int z)), .int y => .ok .nx (ρ.set i (.fz (.int (h z y))))
  | _, _ => .fail := rfl
@[simp] theorem augAt_ap : mAugAt i h fk fe ρ = (chkL i ρ).bnd fun _ => M.bind fk fun c => M.bind (mGetV i c) fun old => M.bind fe fun d => mUpd i (augD h c old d) := rfl
@[simp] theorem getV_ap : mGetV i k ρ = match (contR ρ[i]?).bind (getV k) with
  | some z => .ok z ρ
  | none => .fail := rfl
@[simp] theorem catO_ap : mCatO f1 f2 ρ = (f1 ρ).bnd fun c => M.bind f2 fun d => M.opt (match c, d with
  | .lst xs, .lst ys => if tooLong (xs.length + ys.length) = true then none else some (.lst (xs ++ ys), .tt)
  | _, _ => none) := rfl
@[simp] theorem repO_ap : mRepO f1 f2 ρ = (f1 ρ).bnd fun c => M.bind f2 fun d => M.opt (match c, d with
  | .lst xs, .int k => if k < 10000 ∧ -10000 < k ∧ xs.length ≤ 1000 then some (.lst (List.replicate k.toNat xs).flatten, .tt) else none
  | _, _ => none) := rfl
@[simp] theorem isiL_ap {T : String} : mIsiL T i ρ = (chk i ρ).bnd fun _ ρ => match (contR ρ[i]?).bind (dIsi T) with
  | some z => .ok z ρ
  | none => .fail := rfl
@[simp] theorem binL_ap {g : D → D → Option D} : mBinL g i f ρ = (chk i ρ).bnd fun _ => M.bind f fun y ρ => match (contR ρ[i]?).bind fun x => g x y with
  | some z => if scalD z = true then .ok z ρ else .fail
  | none => .fail := rfl
@[simp] theorem scal_bl {k : Bool} : scalD (.bl k) = true := rfl
@[simp] theorem lenL_ap : mLenL i ρ = (chk i ρ).bnd fun _ ρ => match (contR ρ[i]?).bind fun d => dLen [d] with
  | some z => .ok z ρ
  | none => .fail := rfl
end
end Dt
namespace Dt
open PySem L2
def kOk : L2.Key → Bool
  | .inl _ => true
  | .inr x => PyData.strOk x
def okD : Nat → D → Bool
  | _, .non => true
  | _, .bl _ => true
  | _, .int _ => true
  | _, .str x => PyData.strOk x
  | 0, _ => false
  | n + 1, .lst xs => xs.all (okD n)
  | n + 1, .tup xs => xs.all (okD n)
  | _ + 1, .scr _ => true
  | _ + 1, .dic _ _ => false
  | _ + 1, .dct _ _ => false
  | _ + 1, .obj _ => false
  | _ + 1, .key ks => ks.all kOk
theorem okD_all {n : Nat} (ih : ∀ d, okD n d = true → d.py.canLay0 = true ∧ d.py.depth ≤ n) : ∀ xs : List D, xs.all (okD n) = true → PyData.canLayAll0 (D.pys xs) = true ∧ PyData.depthAll (D.pys xs) ≤ n
  | [], _ => ⟨by simp [D.pys, PyData.canLayAll0], by simp [D.pys, PyData.depthAll]⟩
  | x :: xs, h => by
    rw [List.all_cons, Bool.and_eq_true] at h
    obtain ⟨a1, a2⟩ := ih x h.1
    obtain ⟨b1, b2⟩ := okD_all ih xs h.2
    refine ⟨by simp [D.pys, PyData.canLayAll0, a1, b1], ?_⟩
    simp only [D.pys, PyData.depthAll]
    omega
theorem canLay_ints : ∀ ns : List Int, PyData.canLayAll0 (ns.map PyData.int) = true
  | [] => by simp [PyData.canLayAll0]
  | n :: ns => by simp [PyData.canLayAll0, PyData.canLay0, canLay_ints ns]
theorem depth_ints : ∀ ns : List Int, PyData.depthAll (ns.map PyData.int) = 0
  | [] => by simp [PyData.depthAll]
  | n :: ns => by simp [PyData.depthAll, PyData.depth, depth_ints ns]
theorem canLay_keys : ∀ ks : List L2.Key, ks.all kOk = true → PyData.canLayAll0 (ks.map kPy) = true
  | [], _ => by simp [PyData.canLayAll0]
  | .inl n :: ns, h => by
    rw [List.all_cons, Bool.and_eq_true] at h
    simp [kPy, PyData.canLayAll0, PyData.canLay0, canLay_keys ns h.2]
  | .inr n :: ns, h => by
    rw [List.all_cons, Bool.and_eq_true] at h
    have h1 : PyData.strOk n = true := h.1
    simp [kPy, PyData.canLayAll0, PyData.canLay0, h1, canLay_keys ns h.2]
theorem depth_keys : ∀ ks : List L2.Key, PyData.depthAll (ks.map kPy) = 0
  | [] => by simp [PyData.depthAll]
  | .inl n :: ns => by simp [kPy, PyData.depthAll, PyData.depth, depth_keys ns]
  | .inr n :: ns => by simp [kPy, PyData.depthAll, PyData.depth, depth_keys ns]
theorem okD_ok : ∀ (n : Nat) (d : D), okD n d = true → d.py.canLay0 = true ∧ d.py.depth ≤ n
  | 0, .non, _ => by simp [D.py, PyData.canLay0, PyData.depth]
  | 0, .bl _, _ => by simp [D.py, PyData.canLay0, PyData.depth]
  | 0, .int _, _ => by simp [D.py, PyData.canLay0, PyData.depth]
  | 0, .str x, h => by
    have h' : PyData.strOk x = true := h
    simp [D.py, PyData.canLay0, PyData.depth, h']
  | 0, .lst _, h => by cases h
  | 0, .tup _, h => by cases h
  | 0, .scr _, h => by cases h
  | 0, .dic _ _, h => by cases h
  | 0, .dct _ _, h => by cases h
  | 0, .obj _, h => by cases h
  | 0, .key _, h => by cases h
  | n + 1, .dic _ _, h => by cases h
  | n + 1, .dct _ _, h => by cases h
  | n + 1, .obj _, h => by cases h
  | n + 1, .key ks, h => by
    have h' : ks.all kOk = true := h
    simp [D.py, PyData.canLay0, PyData.depth, canLay_keys ks h', depth_keys ks]
  | n + 1, .non, _ => by simp [D.py, PyData.canLay0, PyData.depth]
  | n + 1, .bl _, _ => by simp [D.py, PyData.canLay0, PyData.depth]
  | n + 1, .int _, _ => by simp [D.py, PyData.canLay0, PyData.depth]
  | n + 1, .str x, h => by
    have h' : PyData.strOk x = true := h
    simp [D.py, PyData.canLay0, PyData.depth, h']
  | n + 1, .lst xs, h => by
    obtain ⟨a, b⟩ := okD_all (okD_ok n) xs h
    refine ⟨by simp [D.py, PyData.canLay0, a], ?_⟩
    simp only [D.py, PyData.depth]
    omega
  | n + 1, .tup xs, h => by
    obtain ⟨a, b⟩ := okD_all (okD_ok n) xs h
    refine ⟨by simp [D.py, PyData.canLay0, a], ?_⟩
    simp only [D.py, PyData.depth]
    omega
  | n + 1, .scr ns, _ => by
    have h1 := canLay_ints ns
    have h2 := depth_ints ns
    refine ⟨by simp [D.py, PyData.canLay0, h1], ?_⟩
    simp only [D.py, PyData.depth]
    omega
theorem shp_of {n : Nat} {d : D} (h : okD n d = true) (hn : n ≤ 64) : shp d = true := by
  obtain ⟨a, b⟩ := okD_ok n d h
  show (d.py.canLay0 && decide (d.py.depth ≤ 64)) = true
  rw [a, Bool.true_and, decide_eq_true_iff]
  omega
def plD : Nat → D → Bool
  | _, .non => true
  | _, .int _ => true
  | _, .str _ => true
  | n + 1, .lst xs => xs.all (plD n)
  | n + 1, .tup xs => xs.all (plD n)
  | _, _ => false
theorem eqv_all {n : Nat} (ih : ∀ d e, plD n d = true → plD n e = true → (PyData.eqv d.py e.py = true ↔ d = e)) : ∀ xs ys : List D, xs.all (plD n) = true → ys.all (plD n) = true → (PyData.eqvAll (D.pys xs) (D.pys ys) = true ↔ xs = ys)
  | [], [], _, _ => by simp [D.pys, PyData.eqvAll]
  | [], _ :: _, _, _ => by simp [D.pys, PyData.eqvAll]
  | _ :: _, [], _, _ => by simp [D.pys, PyData.eqvAll]
  | x :: xs, y :: ys, h, k => by
    rw [List.all_cons, Bool.and_eq_true] at h k
    have h1 := ih x y h.1 k.1
    have h2 := eqv_all ih xs ys h.2 k.2
    simp only [D.pys, PyData.eqvAll, Bool.and_eq_true, h1, h2, List.cons.injEq]
theorem eqv_iff : ∀ (n : Nat) (d e : D), plD n d = true → plD n e = true → (PyData.eqv d.py e.py = true ↔ d = e) := by
  intro n
  induction n with
  | zero =>
    intro d e h k
    cases d <;> cases e <;> first | (simp [D.py, PyData.eqv]; done) | (exact absurd h Bool.false_ne_true) | (exact absurd k Bool.false_ne_true)
  | succ n ih =>
    intro d e h k
    cases d with
    | bl _ => cases h
    | scr _ => cases h
    | dic _ _ => cases h
    | dct _ _ => cases h
    | obj _ => cases h
    | key _ => cases h
    | lst xs =>
      cases e with
      | lst ys =>
        have := eqv_all ih xs ys h k
        simp only [D.py, PyData.eqv, this, D.lst.injEq]
      | bl _ => cases k
      | scr _ => cases k
      | dic _ _ => cases k
      | dct _ _ => cases k
      | obj _ => cases k
      | key _ => cases k
      | _ => simp [D.py, PyData.eqv]
    | tup xs =>
      cases e with
      | tup ys =>
        have := eqv_all ih xs ys h k
        simp only [D.py, PyData.eqv, this, D.tup.injEq]
      | bl _ => cases k
      | scr _ => cases k
      | dic _ _ => cases k
      | dct _ _ => cases k
      | obj _ => cases k
      | key _ => cases k
      | _ => simp [D.py, PyData.eqv]
    | _ =>
      cases e with
      | bl _ => cases k
      | scr _ => cases k
      | dic _ _ => cases k
      | dct _ _ => cases k
      | obj _ => cases k
      | key _ => cases k
      | _ => simp [D.py, PyData.eqv]
def gdD (d : D) : Prop := okD 20 d = true ∧ plD 20 d = true
theorem dEq_self {d : D} (h : gdD d) : dEq d d = some (.bl true) := by
  have s := shp_of h.1 (by decide)
  have q := (eqv_iff 20 d d h.2 h.2).mpr rfl
  cases d with
  | int i => simp
  | str x => simp
  | _ => simp [dEq, s, q]
theorem dEq_ne {d e : D} (h : gdD d) (k : gdD e) (n : d ≠ e) : dEq d e = some (.bl false) := by
  have s := shp_of h.1 (by decide)
  have s2 := shp_of k.1 (by decide)
  have q : PyData.eqv d.py e.py = false := by
    cases z : PyData.eqv d.py e.py with
    | false => rfl
    | true => exact absurd ((eqv_iff 20 d e h.2 k.2).mp z) n
  unfold dEq
  split
  · rename_i i j
    have : i ≠ j := fun z => n (by rw [z])
    simp [this]
  · rename_i i j
    have : i ≠ j := fun z => n (by rw [z])
    simp [this]
  · rw [if_pos ⟨s, s2⟩, q]
theorem dNe_not {d e : D} {k : Bool} (h : dEq d e = some (.bl k)) : dNe d e = some (.bl (!k)) := by
  cases d <;> cases e <;> simp only [dEq, dNe] at h ⊢ <;> first | (injection h with h; injection h with h; rw [h]; done) | (split at h <;> first | (injection h with h; injection h with h; rename_i hh; rw [if_pos hh, h]) | cases h)
theorem dNe_ne {d e : D} (h : gdD d) (k : gdD e) (n : d ≠ e) : dNe d e = some (.bl true) := dNe_not (dEq_ne h k n)
end Dt
namespace Dt
section
variable {n : Nat} {i : Int} {k : Bool} {xs : List D}
@[simp] theorem okD_int : okD n (.int i) = true := by cases n <;> rfl
@[simp] theorem okD_non : okD n .non = true := by cases n <;> rfl
@[simp] theorem okD_bl : okD n (.bl k) = true := by cases n <;> rfl
@[simp] theorem okD_lst : okD (n + 1) (.lst xs) = xs.all (okD n) := rfl
@[simp] theorem okD_tup : okD (n + 1) (.tup xs) = xs.all (okD n) := rfl
@[simp] theorem plD_int : plD n (.int i) = true := by cases n <;> rfl
@[simp] theorem plD_non : plD n .non = true := by cases n <;> rfl
@[simp] theorem plD_lst : plD (n + 1) (.lst xs) = xs.all (plD n) := rfl
@[simp] theorem plD_tup : plD (n + 1) (.tup xs) = xs.all (plD n) := rfl
end
end Dt
namespace Dt
open PySem L2
def fq (q : Rat) : D := .tup [.int q.num, .int (q.den : Int)]
def eL {α : Type} (f : α → D) (xs : List α) : D := .lst (xs.map f)
def eV {α : Type} (f : α → D) (xs : List α) : D := .tup (xs.map f)
def eT2 {α β : Type} (f : α → D) (g : β → D) (p : α × β) : D := .tup [f p.1, g p.2]
def eT3 {α β γ : Type} (f : α → D) (g : β → D) (h : γ → D) (p : α × β × γ) : D := .tup [f p.1, g p.2.1, h p.2.2]
def eT4 {α β γ δ : Type} (f : α → D) (g : β → D) (h : γ → D) (k : δ → D) (p : α × β × γ × δ) : D := .tup [f p.1, g p.2.1, h p.2.2.1, k p.2.2.2]
def eN (_ : Unit) : D := .non
abbrev Num := List Rat ⊕ List Int
def eNum : Num → D
  | .inl r => eL fq r
  | .inr c => eL D.int c
def numQ (x : Num) : List Rat := match x with
  | .inl r => r
  | .inr _ => []
def numI (x : Num) : List Int := match x with
  | .inl _ => []
  | .inr c => c
def numLen (x : Num) : Nat := match x with
  | .inl r => r.length
  | .inr c => c.length
abbrev Com := Str × Num
abbrev eC : Com → D := eT2 D.str eNum
def mkq (p : Int × Int) : Rat := Rat.divInt p.1 p.2
def IsQ (p : Int × Int) : Prop := 0 < p.2 ∧ Nat.gcd p.1.natAbs p.2.natAbs = 1
abbrev Line := List Rat × Rat × Int × Str
abbrev Way := Int × Rat
abbrev Stand := Int × Rat × List Way
abbrev Net := List Line × List Stand × Com
abbrev eLine : Line → D := eT4 (eL fq) fq D.int D.str
abbrev eWay : Way → D := eT2 D.int fq
abbrev eStand : Stand → D := eT3 D.int fq (eL eWay)
abbrev eNet : Net → D := eT3 (eL eLine) (eL eStand) eC
def bd {α β : Sort _} (v : α) (b : α → β) : β := b v
def ixN' (n : Nat) (i : Int) : Nat := if i < 0 then (i + n).toNat else i.toNat
def ix {α : Type} [Inhabited α] (xs : List α) (i : Int) : α := xs.getD (ixN' xs.length i) default
def InB (n : Nat) (i : Int) : Prop := -(n : Int) ≤ i ∧ i < n
def setI {α : Type} (xs : List α) (i : Int) (v : α) : List α := xs.set (ixN' xs.length i) v
def rangeI (lo hi : Int) : List Int := (List.range (hi - lo).toNat).map fun (i : Nat) => lo + (i : Int)
def enumI {α : Type} (xs : List α) : List (Int × α) := (rangeI 0 xs.length).zip xs
def cut {α : Type} (xs : List α) (lo hi : Option Int) : List α := (xs.drop (HT.sIx xs.length 0 lo)).take (HT.sIx xs.length xs.length hi - HT.sIx xs.length 0 lo)
def repI {α : Type} (xs : List α) (k : Int) : List α := (List.replicate k.toNat xs).flatten
def maxL : List Int → Int
  | [] => 0
  | n :: ns => ns.foldl max n
def minL : List Int → Int
  | [] => 0
  | n :: ns => ns.foldl min n
def sfl {σ α : Type} (f : σ → α → σ) (S : σ → α → Prop) : List α → σ → Prop
  | [], _ => True
  | x :: r, s => S s x ∧ sfl f S r (f s x)
inductive Fw (σ ρ : Type) where
  | nx (s : σ)
  | rt (v : ρ)
def flw {σ α ρ : Type} (f : σ → α → Fw σ ρ) : List α → σ → Fw σ ρ
  | [], s => .nx s
  | x :: r, s => match f s x with
    | .nx s' => flw f r s'
    | .rt v => .rt v
def sflw {σ α ρ : Type} (f : σ → α → Fw σ ρ) (S : σ → α → Prop) : List α → σ → Prop
  | [], _ => True
  | x :: r, s => S s x ∧ match f s x with
    | .nx s' => sflw f S r s'
    | .rt _ => True
def fwc {σ ρ β : Type} (w : Fw σ ρ) (kr : ρ → β) (kn : σ → β) : β := match w with
  | .nx s => kn s
  | .rt v => kr v
def sfwc {σ ρ : Type} (w : Fw σ ρ) (S : σ → Prop) : Prop := match w with
  | .nx s => S s
  | .rt _ => True
def lcS {σ α β : Type} (p : α → σ → Bool × σ) (e : α → σ → β × σ) : List α → σ → List β × σ
  | [], s => ([], s)
  | x :: r, s => cond (p x s).1 (((e x (p x s).2).1 :: (lcS p e r (e x (p x s).2).2).1), (lcS p e r (e x (p x s).2).2).2) (lcS p e r (p x s).2)
def slcS {σ α β : Type} (p : α → σ → Bool × σ) (e : α → σ → β × σ) (S : α → σ → Prop) : List α → σ → Prop
  | [], _ => True
  | x :: r, s => S x s ∧ (((p x s).1 = true) → slcS p e S r (e x (p x s).2).2) ∧ (((p x s).1 = false) → slcS p e S r (p x s).2)
theorem sfl_T {σ α : Type} {f : σ → α → σ} : ∀ {xs : List α} {s : σ}, sfl f (fun _ _ => True) xs s
  | [], _ => trivial
  | _ :: _, _ => ⟨trivial, sfl_T⟩
theorem sfwc_T {σ ρ : Type} {w : Fw σ ρ} : sfwc w (fun _ => True) := by cases w <;> trivial
theorem slcS_T {σ α β : Type} {p : α → σ → Bool × σ} {e : α → σ → β × σ} : ∀ {xs : List α} {s : σ}, slcS p e (fun _ _ => True) xs s
  | [], _ => trivial
  | _ :: _, _ => ⟨trivial, fun _ => slcS_T, fun _ => slcS_T⟩
section
variable {ρ ρ1 ρ2 ρ3 : Env} {i j n : Nat} {x y z d : D} {xs ys ds : List D} {f f1 f2 f3 fk fe : M D} {fs : M (List D)} {fo : M (D × Ob)} {g : D → D → Option D} {g1 : D → Option D} {gs : List D → Option D} {t u : M Bool} {c c2 : Bool} {o : Ob}
theorem v_fz (h : ρ[i]? = some (.fz d)) : mVar i ρ = .ok d ρ := by unfold mVar; rw [h]
theorem vf (i : Nat) (h : ρ[i]? = some (.fz d)) : mVar i ρ = .ok d ρ := v_fz h
abbrev zI (x : Int) : Slot := .fz (.int x)
abbrev zQ (x : Rat) : Slot := .fz (fq x)
abbrev zL (x : List Rat) : Slot := .fz (eL fq x)
abbrev zJ (x : List Int) : Slot := .fz (eL D.int x)
theorem b2 (h1 : f1 ρ = .ok x ρ1) (h2 : f2 ρ1 = .ok y ρ2) (h3 : g x y = some z) : mBin g f1 f2 ρ = .ok z ρ2 := by
  unfold mBin M.bind; rw [h1]; dsimp only; rw [h2]; dsimp only; unfold M.opt; rw [h3]
theorem u1 (h1 : f ρ = .ok x ρ1) (h3 : g1 x = some z) : mUn g1 f ρ = .ok z ρ1 := by
  unfold mUn M.bind; rw [h1]; dsimp only; unfold M.opt; rw [h3]
theorem a0 : mNil ρ = .ok [] ρ := rfl
theorem a1 (h1 : f ρ = .ok x ρ1) (h2 : fs ρ1 = .ok xs ρ2) : mCons f fs ρ = .ok (x :: xs) ρ2 := by
  unfold mCons M.bind; rw [h1]; dsimp only; rw [h2]; rfl
theorem c1 (h : fs ρ = .ok xs ρ1) (h2 : gs xs = some d) : mCall gs fs ρ = .ok d ρ1 := by
  unfold mCall M.bind; rw [h]; dsimp only; unfold M.opt; rw [h2]
theorem x0 : xNil ρ = .ok [] ρ := rfl
theorem x1 {fx : M (List AV)} {avs : List AV} (h1 : f ρ = .ok x ρ1) (h2 : fx ρ1 = .ok avs ρ2) : xV f fx ρ = .ok (.v x :: avs) ρ2 := by
  unfold xV M.bind; rw [h1]; dsimp only; rw [h2]; rfl
theorem x1s {fx : M (List AV)} {avs : List AV} {s : Slot} (h1 : ρ[i]? = some s) (ho : flat s = true) (h2 : fx ρ = .ok avs ρ2) : xS i fx ρ = .ok (.s i :: avs) ρ2 := by
  unfold xS M.bind; dsimp only; rw [h1]
  cases s with
  | ow d => dsimp only; rw [h2]; rfl
  | io d => dsimp only; rw [h2]; rfl
  | un => cases ho
  | fz d => cases ho
  | dp m d => cases ho
def aft (m : Option Nat) (avs : List AV) (ρ : Env) (out : D) : Env := match slotOf m avs with
  | none => ρ
  | some i => ρ.set i (reslot ρ[i]? out)
theorem cN {fx : M (List AV)} {avs : List AV} {m : Option Nat} {fn : List D → Rf} {out : D} (h : fx ρ = .ok avs ρ1) (hl : avs.length = n) (hs : setup ρ1 m avs = some ds) (hf : fn ds = .ok d o out)
    (hr : aft m avs ρ1 out = ρ2) (ho : o.ok = true := by rfl) : mCallN n m fn fx ρ = .ok (d, o) ρ2 := by
  unfold mCallN mCallF M.bind
  rw [h]; dsimp only
  rw [if_pos hl]
  unfold M.opt; dsimp only
  rw [hs]; dsimp only
  rw [hf]; dsimp only
  rw [if_pos ho, ← hr]; rfl
theorem mfz (h : fo ρ = .ok (d, o) ρ1) (ho : o.ok = true := by rfl) : mFz fo ρ = .ok d ρ1 := by unfold mFz M.bind; rw [h]; dsimp only; rw [if_pos ho]; rfl
theorem mof (h : f ρ = .ok d ρ1) : mOf f ρ = .ok (d, .ff) ρ1 := by unfold mOf M.bind; rw [h]; rfl
theorem mtup (h : fs ρ = .ok xs ρ1) (hl : Nat.ble xs.length 10000 = true := by rfl) : mTup fs ρ = .ok (.tup xs) ρ1 := by
  unfold mTup M.bind; rw [h]; dsimp only; rw [if_pos (Nat.le_of_ble_eq_true hl)]; rfl
theorem mlst (h : fs ρ = .ok xs ρ1) (hl : Nat.ble xs.length 10000 = true := by rfl) : mLst fs ρ = .ok (.lst xs, .tt) ρ1 := by
  unfold mLst M.bind; rw [h]; dsimp only; rw [if_pos (Nat.le_of_ble_eq_true hl)]; rfl
theorem mv_fz (h : ρ[i]? = some (.fz d)) : mMove i ρ = .ok (d, .ff) ρ := by unfold mMove; rw [h]
theorem mv_ow (h : ρ[i]? = some (.ow d)) : mMove i ρ = .ok (d, .tt) (ρ.set i .un) := by unfold mMove; rw [h]
theorem tst (h : f ρ = .ok (.bl c) ρ1) : mTest f ρ = .ok c ρ1 := by unfold mTest M.bind; rw [h]; rfl
theorem nt (h : t ρ = .ok c ρ1) : mNot t ρ = .ok (!c) ρ1 := by unfold mNot M.bind; rw [h]; rfl
theorem an (h1 : t ρ = .ok c ρ1) (h2 : c = true → u ρ1 = .ok c2 ρ1) : mAnd t u ρ = .ok (c && c2) ρ1 := by
  unfold mAnd M.bind; rw [h1]
  cases c with
  | true => exact h2 rfl
  | false => rfl
theorem orr (h1 : t ρ = .ok c ρ1) (h2 : c = false → u ρ1 = .ok c2 ρ1) : mOr t u ρ = .ok (c || c2) ρ1 := by
  unfold mOr M.bind; rw [h1]
  cases c with
  | false => exact h2 rfl
  | true => rfl
theorem anS {σ : Type} {ctx : σ → Env} {s1 s2 : σ} (h1 : t ρ = .ok c (ctx s1)) (h2 : c = true → u (ctx s1) = .ok c2 (ctx s2)) : mAnd t u ρ = .ok (c && c2) (ctx (cond c s2 s1)) := by
  unfold mAnd M.bind; rw [h1]
  cases c with
  | true => exact h2 rfl
  | false => rfl
theorem orS {σ : Type} {ctx : σ → Env} {s1 s2 : σ} (h1 : t ρ = .ok c (ctx s1)) (h2 : c = false → u (ctx s1) = .ok c2 (ctx s2)) : mOr t u ρ = .ok (c || c2) (ctx (cond c s1 s2)) := by
  unfold mOr M.bind; rw [h1]
  cases c with
  | false => exact h2 rfl
  | true => rfl
theorem anV (h1 : f1 ρ = .ok (.bl c) ρ1) (h2 : c = true → f2 ρ1 = .ok (.bl c2) ρ1) : mAndV f1 f2 ρ = .ok (.bl (c && c2)) ρ1 := by
  unfold mAndV M.bind; rw [h1]
  cases c with
  | true => exact h2 rfl
  | false => rfl
theorem orV (h1 : f1 ρ = .ok (.bl c) ρ1) (h2 : c = false → f2 ρ1 = .ok (.bl c2) ρ1) : mOrV f1 f2 ρ = .ok (.bl (c || c2)) ρ1 := by
  unfold mOrV M.bind; rw [h1]
  cases c with
  | false => exact h2 rfl
  | true => rfl
theorem ntV (h1 : f ρ = .ok (.bl c) ρ1) : mNotV f ρ = .ok (.bl (!c)) ρ1 := by unfold mNotV M.bind; rw [h1]; rfl
theorem chn {g' : D → D → Option D} {w : D} (h1 : f1 ρ = .ok x ρ1) (h2 : f2 ρ1 = .ok y ρ2) (h3 : g x y = some (.bl c)) (h4 : c = true → f3 ρ2 = .ok w ρ2) (h5 : c = true → g' y w = some (.bl c2)) : mChain g g' f1 f2 f3 ρ = .ok (.bl (c && c2)) ρ2 := by
  unfold mChain M.bind; rw [h1]; dsimp only; rw [h2]; dsimp only; unfold M.opt; rw [h3]; dsimp only
  cases c with
  | true => dsimp only; rw [h4 rfl]; dsimp only; rw [h5 rfl]; rfl
  | false => rfl
end
section
variable {α β : Type} {F : α → D} {G : β → D} {p q : Int} {s1 s2 : Str} {k1 k2 : Bool}
theorem ixN_of {n : Nat} {i : Int} (h : InB n i) : ixN n i = some (ixN' n i) ∧ ixN' n i < n := by
  obtain ⟨h1, h2⟩ := h
  unfold ixN ixN'
  by_cases q : i < 0
  · rw [if_neg (by omega), if_pos h1, if_pos q]; exact ⟨rfl, by omega⟩
  · rw [if_pos (by omega), if_pos h2, if_neg q]; exact ⟨rfl, by omega⟩
theorem at_of {γ : Type} {F : α → γ} [Inhabited α] {xs : List α} {i : Int} (h : InB xs.length i) : L2.atI (xs.map F) i = some (F (ix xs i)) := by
  obtain ⟨h1, h2⟩ := ixN_of h
  unfold L2.atI ix
  rw [List.length_map, h1]
  show (xs.map F)[ixN' xs.length i]? = _
  rw [List.getElem?_map, List.getElem?_eq_getElem h2, List.getD_eq_getElem?_getD, List.getElem?_eq_getElem h2]
  rfl
theorem o_ixL [Inhabited α] {xs : List α} (h : InB xs.length p) : dIx (eL F xs) (.int p) = some (F (ix xs p)) := at_of h
theorem o_ixLL [Inhabited α] {xs : List α} (h : InB xs.length p) : dIxL (eL F xs) (.int p) = some (F (ix xs p)) := at_of h
theorem o_addL {xs ys : List α} (h : xs.length + ys.length ≤ 10000) : dAdd (eL F xs) (eL F ys) = some (eL F (xs ++ ys)) := by
  unfold eL dAdd
  rw [List.map_append]
  show (if tooLong ((xs.map F).length + (ys.map F).length) = true then none else _) = _
  rw [if_neg (by unfold tooLong; rw [decide_eq_true_iff, List.length_map, List.length_map]; omega)]
theorem o_addS (h : s1.length + s2.length ≤ 10000000) : dAdd (.str s1) (.str s2) = some (.str (s1 ++ s2)) := by
  show (if tooLong (s1.length + s2.length) = true then none else _) = _
  rw [if_neg (by unfold tooLong; rw [decide_eq_true_iff]; omega)]
theorem map_flat {xs : List α} : ∀ k : Nat, (List.replicate k (xs.map F)).flatten = (List.replicate k xs).flatten.map F
  | 0 => rfl
  | k + 1 => by rw [List.replicate_succ, List.replicate_succ, List.flatten_cons, List.flatten_cons, List.map_append, map_flat k]
theorem o_lenL {xs : List α} : dLen [eL F xs] = some (.int xs.length) := by
  show some (D.int ((xs.map F).length : Int)) = _
  rw [List.length_map]
theorem o_sum {xs : List Int} : dSum [eL D.int xs] = some (.int xs.sum) := by
  show (asInts (xs.map D.int)).map (fun ns => D.int ns.sum) = _
  rw [asInts_map]; rfl
theorem o_maxL {xs : List Int} (h : xs ≠ []) : dMaxL [eL D.int xs] = some (.int (maxL xs)) := by
  show ((asInts (xs.map D.int)).bind maxI).map D.int = _
  rw [asInts_map]
  cases xs with
  | nil => exact absurd rfl h
  | cons n ns => rfl
theorem o_minL {xs : List Int} (h : xs ≠ []) : dMinL [eL D.int xs] = some (.int (minL xs)) := by
  show ((asInts (xs.map D.int)).bind minI).map D.int = _
  rw [asInts_map]
  cases xs with
  | nil => exact absurd rfl h
  | cons n ns => rfl
end
end Dt
namespace Dt
open PySem PySem.Spec PyProof.Rows L2
def mKill (is : List Nat) : M Fl := fun ρ => .ok .nx (wipeE ρ is)
def mFrz (i : Nat) : M Fl := fun ρ => match ρ[i]? with
  | some (.ow d) => .ok .nx (ρ.set i (.fz d))
  | some (.dp _ d) => .ok .nx (ρ.set i (.fz d))
  | _ => .ok .nx ρ
theorem Lv.kill {K : PySem.W.Frag} {F : Fr} {ρ : Env} {σ : St} {B H : Hp} (L : Lv K F ρ σ B H) : ∀ is : List Nat, Lv K F (wipeE ρ is) σ B H
  | [] => L
  | i :: is => (Lv.kill L is).slot rfl (fun d z => nomatch z)
section
variable {X : Cx} {W : WX} {sts : List Stmt} {f : M Fl} {is : List Nat} {i : Nat}
theorem svs_kill (h : SVs X W sts f) : SVs X W sts (mSeq (mKill is) f) := fun F ρ σ B H N L P => h F _ σ B H N (L.kill is) P
theorem svs_frz (h : SVs X W sts f) : SVs X W sts (mSeq (mFrz i) f) := by
  intro F ρ σ B H N L P
  have P' : PostS X W F B (M.bind (mFrz i) _ ρ) N := P
  unfold M.bind mFrz at P'
  cases q : ρ[i]? with
  | none => rw [q] at P'; exact h F ρ σ B H N L P'
  | some s =>
    cases s with
    | ow d =>
      rw [q] at P'
      obtain ⟨B', v, e1, _, _, L'⟩ := L.frz q
      exact h F _ σ B' H N L' (PostS.weak P' e1)
    | dp m d =>
      rw [q] at P'
      obtain ⟨B', v, e1, _, _, L'⟩ := L.frz0 q rfl
      exact h F _ σ B' H N L' (PostS.weak P' e1)
    | un => rw [q] at P'; exact h F ρ σ B H N L P'
    | fz d => rw [q] at P'; exact h F ρ σ B H N L P'
    | io d => rw [q] at P'; exact h F ρ σ B H N L P'
end
section
variable {α β : Type} {F : α → D} {G : β → D} {ρ ρ1 ρ2 : Env} {f f1 f2 : M D} {fs : M (List D)} {ds : List D}
theorem rangeD_eq (lo hi : Int) : rangeD lo hi = (rangeI lo hi).map D.int := by
  unfold rangeD rangeI
  rw [List.map_map]; rfl
theorem i_L {xs : List α} (h : f ρ = .ok (eL F xs) ρ1) : mIter f ρ = .ok (xs.map F) ρ1 := by unfold mIter M.bind; rw [h]; rfl
theorem i_r1 {j : Int} (h : fs ρ = .ok [.int j] ρ1) (hb : -100000000 < j ∧ j < 100000000) : mRange1 fs ρ = .ok ((rangeI 0 j).map D.int) ρ1 := by
  unfold mRange1 M.bind; rw [h]; dsimp only; rw [if_pos hb, rangeD_eq]; rfl
theorem zip_eq : ∀ (xs : List α) (ys : List β), List.zipWith (fun x y => D.tup [x, y]) (xs.map F) (ys.map G) = (xs.zip ys).map (eT2 F G)
  | [], ys => by simp
  | x :: xs, [] => by simp
  | x :: xs, y :: ys => by
    simp only [List.map_cons, List.zipWith_cons_cons, List.zip_cons_cons, zip_eq xs ys]
    rfl
theorem i_zip {xs : List α} {ys : List β} (h : fs ρ = .ok [eL F xs, eL G ys] ρ1) : mZip fs ρ = .ok ((xs.zip ys).map (eT2 F G)) ρ1 := by
  unfold mZip M.bind; rw [h]; dsimp only [eL]; rw [zip_eq]; rfl
theorem enum_eq : ∀ (k : Nat) (xs : List α), enumD k (xs.map F) = (((List.range' k xs.length).map fun (i : Nat) => (i : Int)).zip xs).map (eT2 D.int F)
  | k, [] => rfl
  | k, x :: xs => by
    rw [List.map_cons, List.length_cons, List.range'_succ]
    show D.tup [.int (k : Nat), F x] :: enumD (k + 1) (xs.map F) = _
    rw [enum_eq (k + 1) xs]; rfl
theorem rangeI_nat (n : Nat) : rangeI 0 n = (List.range' 0 n).map fun (i : Nat) => (i : Int) := by
  unfold rangeI
  rw [Int.sub_zero, Int.toNat_natCast, List.range_eq_range']
  refine List.map_congr_left fun i _ => ?_
  omega
theorem i_enum {xs : List α} (h : fs ρ = .ok [eL F xs] ρ1) : mEnum fs ρ = .ok ((enumI xs).map (eT2 D.int F)) ρ1 := by
  unfold mEnum M.bind; rw [h]; dsimp only [eL]; rw [enum_eq]; unfold enumI; rw [rangeI_nat]; rfl
theorem cut_map {xs : List α} {lo hi : Option Int} : cutD (xs.map F) lo hi = (cut xs lo hi).map F := by
  unfold cutD cut
  rw [List.length_map, List.map_take, List.map_drop]
theorem pt0 : mPart none ρ = .ok none ρ := rfl
theorem pt1 {i : Int} (h : f ρ = .ok (.int i) ρ1) : mPart (some f) ρ = .ok (some i) ρ1 := by unfold mPart M.bind; dsimp only; rw [h]; rfl
theorem slL {xs : List α} {fl fh : M (Option Int)} {lo hi : Option Int} {ρ3 : Env} (h : f ρ = .ok (eL F xs) ρ1) (hl : fl ρ1 = .ok lo ρ2) (hh : fh ρ2 = .ok hi ρ3) : mSl f fl fh ρ = .ok (eL F (cut xs lo hi), .tt) ρ3 := by
  unfold mSl M.bind; rw [h]; dsimp only; rw [hl]; dsimp only; rw [hh]; dsimp only [eL, dSl]; rw [cut_map]; rfl
theorem lofL {xs : List α} (h : fs ρ = .ok [eL F xs] ρ1) : mListOf fs ρ = .ok (eL F xs, .tt) ρ1 := by unfold mListOf M.bind; rw [h]; rfl
theorem catO {xs ys : List α} (h : f1 ρ = .ok (eL F xs) ρ1) (h2 : f2 ρ1 = .ok (eL F ys) ρ2) (hl : xs.length + ys.length ≤ 10000) : mCatO f1 f2 ρ = .ok (eL F (xs ++ ys), .tt) ρ2 := by
  unfold mCatO M.bind; rw [h]; dsimp only; rw [h2]; dsimp only [eL]
  rw [if_neg (by unfold tooLong; rw [decide_eq_true_iff, List.length_map, List.length_map]; omega), List.map_append]; rfl
theorem repO {xs : List α} {q : Int} (h : f1 ρ = .ok (eL F xs) ρ1) (h2 : f2 ρ1 = .ok (.int q) ρ2) (hl : q < 10000 ∧ -10000 < q ∧ xs.length ≤ 1000) : mRepO f1 f2 ρ = .ok (eL F (repI xs q), .tt) ρ2 := by
  unfold mRepO M.bind; rw [h]; dsimp only; rw [h2]; dsimp only [eL]
  rw [if_pos (by rw [List.length_map]; exact hl), map_flat]; rfl
end
section
variable {α β σ : Type} {F : α → D} {G : β → D} {own : List Nat} {f : M (List D)} {g : D → Env → Option Env} {t : M Bool} {e : M D} {ρ ρ0 ρ1 ρ9 : Env}
theorem lcL_pure {p : α → Bool} {φ : α → β} : ∀ (xs : List α) (acc : List D), (∀ x ∈ xs, ∃ ρx, g (F x) ρ1 = some ρx ∧ t ρx = .ok (p x) ρx ∧ wipeE ρx own = ρ1 ∧ (p x = true → ∃ ρz, e ρx = .ok (G (φ x)) ρz ∧ wipeE ρz own = ρ1)) → acc.length + xs.length ≤ 10000 →
    mLcL own g t e (xs.map F) acc ρ1 = .ok (acc ++ ((xs.filter p).map φ).map G) ρ1
  | [], acc, _, _ => by simp [mLcL, M.pure]
  | x :: xs, acc, h, hl => by
    obtain ⟨ρx, h1, h2, h3, h4⟩ := h x (by simp)
    rw [List.length_cons] at hl
    have ih := fun acc' hl' => lcL_pure (p := p) (φ := φ) xs acc' (fun y hy => h y (List.mem_cons_of_mem _ hy)) hl'
    rw [List.map_cons]
    unfold mLcL
    rw [h1]
    dsimp only
    unfold M.bind mNoR
    rw [h2]
    dsimp only
    cases q : p x with
    | false =>
      rw [List.filter_cons_of_neg (by simp [q])]
      dsimp only
      rw [h3]
      exact ih acc (by omega)
    | true =>
      obtain ⟨ρz, h5, h6⟩ := h4 q
      rw [List.filter_cons_of_pos q]
      dsimp only
      rw [h5]
      dsimp only
      rw [if_pos (by omega), h6, ih _ (by rw [List.length_append, List.length_singleton]; omega)]
      simp
theorem lcP {p : α → Bool} {φ : α → β} {xs : List α} (hf : f ρ = .ok (xs.map F) ρ0) (hρ : wipeE ρ0 own = ρ1) (hb : ∀ x ∈ xs, ∃ ρx, g (F x) ρ1 = some ρx ∧ t ρx = .ok (p x) ρx ∧ wipeE ρx own = ρ1 ∧ (p x = true → ∃ ρz, e ρx = .ok (G (φ x)) ρz ∧ wipeE ρz own = ρ1)) (hl : xs.length ≤ 10000) (h9 : wipeE ρ1 own = ρ9) :
    mLc own f g t e ρ = .ok (eL G ((xs.filter p).map φ), .tt) ρ9 := by
  unfold mLc M.bind
  rw [hf]
  dsimp only
  rw [hρ, lcL_pure xs [] hb (by simpa using hl)]
  dsimp only
  rw [h9]; rfl
theorem lcM {φ : α → β} {xs : List α} (hf : f ρ = .ok (xs.map F) ρ0) (hρ : wipeE ρ0 own = ρ1) (hb : ∀ x ∈ xs, ∃ ρx, g (F x) ρ1 = some ρx ∧ wipeE ρx own = ρ1 ∧ ∃ ρz, e ρx = .ok (G (φ x)) ρz ∧ wipeE ρz own = ρ1) (hl : xs.length ≤ 10000) (h9 : wipeE ρ1 own = ρ9) :
    mLc own f g (M.pure true) e ρ = .ok (eL G (xs.map φ), .tt) ρ9 := by
  have := lcP (t := M.pure true) (p := fun _ => true) (φ := φ) hf hρ (fun x hx => by
    obtain ⟨ρx, h1, h2, h3⟩ := hb x hx
    exact ⟨ρx, h1, rfl, h2, fun _ => h3⟩) hl h9
  rw [List.filter_eq_self.mpr (fun _ _ => rfl)] at this
  exact this
theorem lcL_st {ctx : σ → Env} {p : α → σ → Bool × σ} {φ : α → σ → β × σ} {S : α → σ → Prop} : ∀ (xs : List α) (acc : List D) (s : σ), slcS p φ S xs s →
    (∀ x s, S x s → ∃ (cx : σ → Env), g (F x) (ctx s) = some (cx s) ∧ t (cx s) = .ok (p x s).1 (cx (p x s).2) ∧ (∀ s', wipeE (cx s') own = ctx s') ∧ ((p x s).1 = true → e (cx (p x s).2) = .ok (G (φ x (p x s).2).1) (cx (φ x (p x s).2).2))) → acc.length + xs.length ≤ 10000 →
    mLcL own g t e (xs.map F) acc (ctx s) = .ok (acc ++ (lcS p φ xs s).1.map G) (ctx (lcS p φ xs s).2)
  | [], acc, s, _, _, _ => by simp [mLcL, M.pure, lcS]
  | x :: xs, acc, s, hs, h, hl => by
    obtain ⟨cx, h1, h2, h3, h4⟩ := h x s hs.1
    rw [List.length_cons] at hl
    have ih := fun acc' s' hs' hl' => lcL_st (p := p) (φ := φ) (S := S) xs acc' s' hs' h hl'
    rw [List.map_cons]
    unfold mLcL
    rw [h1]
    dsimp only
    unfold M.bind mNoR
    rw [h2]
    dsimp only
    unfold lcS
    cases q : (p x s).1 with
    | false =>
      dsimp only [cond_false]
      rw [h3]
      exact ih acc _ (hs.2.2 q) (by omega)
    | true =>
      dsimp only [cond_true]
      rw [h4 q]
      dsimp only
      rw [if_pos (by omega), h3, ih _ _ (hs.2.1 q) (by rw [List.length_append, List.length_singleton]; omega)]
      simp
theorem lcSt {ctx ctx9 : σ → Env} {p : α → σ → Bool × σ} {φ : α → σ → β × σ} {S : α → σ → Prop} {xs : List α} {s : σ} (hf : f ρ = .ok (xs.map F) ρ0) (hρ : wipeE ρ0 own = ctx s) (hs : slcS p φ S xs s)
    (hb : ∀ x s, S x s → ∃ (cx : σ → Env), g (F x) (ctx s) = some (cx s) ∧ t (cx s) = .ok (p x s).1 (cx (p x s).2) ∧ (∀ s', wipeE (cx s') own = ctx s') ∧ ((p x s).1 = true → e (cx (p x s).2) = .ok (G (φ x (p x s).2).1) (cx (φ x (p x s).2).2))) (hl : xs.length ≤ 10000) (h9 : ∀ s, wipeE (ctx s) own = ctx9 s) :
    mLc own f g t e ρ = .ok (eL G (lcS p φ xs s).1, .tt) (ctx9 (lcS p φ xs s).2) := by
  unfold mLc M.bind
  rw [hf]
  dsimp only
  rw [hρ, lcL_st xs [] s hs hb (by simpa using hl)]
  dsimp only
  rw [h9]; rfl
end
section
variable {β τ : Type} {J : Rs Fl → β → Prop} {ρ ρ1 ρ2 : Env} {f g k : M Fl} {fo : M (D × Ob)} {fd fk fe : M D} {fs : M (List D)} {t : M Bool} {c : Bool} {x y : β} {d d2 : D} {i j : Nat} {o : Ob}
theorem sq_eq (h1 : f ρ = .ok .nx ρ1) : mSeq f g ρ = g ρ1 := by unfold mSeq M.bind; rw [h1]
theorem sq (h1 : f ρ = .ok .nx ρ1) (h2 : J (g ρ1) x) : J (mSeq f g ρ) x := by rw [sq_eq h1]; exact h2
theorem sqB {ctx : τ → Env} {v : τ} {b : τ → β} {S : τ → Prop} (h1 : f ρ = .ok .nx (ctx v)) (hs : bd v S) (h2 : ∀ v, S v → J (g (ctx v)) (b v)) : J (mSeq f g ρ) (bd v b) := sq h1 (h2 v hs)
theorem mIf_t {α : Type} {f g : M α} (h : t ρ = .ok true ρ1) : mIf t f g ρ = f ρ1 := by unfold mIf M.bind; rw [h]
theorem mIf_f {α : Type} {f g : M α} (h : t ρ = .ok false ρ1) : mIf t f g ρ = g ρ1 := by unfold mIf M.bind; rw [h]
theorem sqIf (h : t ρ = .ok c ρ1) (h1 : c = true → J (mSeq f k ρ1) x) (h2 : c = false → J (mSeq g k ρ1) y) : J (mSeq (mIf t f g) k ρ) (cond c x y) := by
  cases c with
  | true =>
    have e : mSeq (mIf t f g) k ρ = mSeq f k ρ1 := by unfold mSeq M.bind; rw [mIf_t h]
    rw [e]; exact h1 rfl
  | false =>
    have e : mSeq (mIf t f g) k ρ = mSeq g k ρ1 := by unfold mSeq M.bind; rw [mIf_f h]
    rw [e]; exact h2 rfl
theorem ifJ {ctx : τ → Env} {v w : τ} (h : t ρ = .ok c ρ1) (h1 : c = true → f ρ1 = .ok .nx (ctx v)) (h2 : c = false → g ρ1 = .ok .nx (ctx w)) : mIf t f g ρ = .ok .nx (ctx (cond c v w)) := by
  unfold mIf M.bind; rw [h]
  cases c with
  | true => exact h1 rfl
  | false => exact h2 rfl
theorem sSet (h : fo ρ = .ok (d, .ff) ρ1) (e : ρ1.set i (.fz d) = ρ2) : mSet i fo ρ = .ok .nx ρ2 := by unfold mSet M.bind; rw [h]; subst e; rfl
theorem sSetO (h : fo ρ = .ok (d, .tt) ρ1) (e : ρ1.set i (.ow d) = ρ2) : mSet i fo ρ = .ok .nx ρ2 := by unfold mSet M.bind; rw [h]; subst e; rfl
theorem sAsg {gg : D → Env → Option Env} (h : fd ρ = .ok d ρ1) (e : gg d ρ1 = some ρ2) : mAsg gg fd ρ = .ok .nx ρ2 := by unfold mAsg M.bind; rw [h]; dsimp only; rw [e]
theorem sDrop (h : fd ρ = .ok d ρ1) : mDrop fd ρ = .ok .nx ρ1 := by unfold mDrop M.bind; rw [h]; rfl
theorem sKill {is : List Nat} (e : wipeE ρ is = ρ2) : mKill is ρ = .ok .nx ρ2 := by unfold mKill; rw [e]
theorem sFrz (h : ρ[i]? = some (.ow d)) (e : ρ.set i (.fz d) = ρ2) : mFrz i ρ = .ok .nx ρ2 := by unfold mFrz; rw [h]; dsimp only; rw [e]
theorem ret_eq (h : fo ρ = .ok (d, o) ρ1) : mRet fo ρ = .ok (.rt d o) ρ1 := by unfold mRet M.bind; rw [h]; rfl
theorem sRet (h : fo ρ = .ok (d, o) ρ1) (h2 : J (.ok (.rt d o) ρ1) x) : J (mRet fo ρ) x := by rw [ret_eq h]; exact h2
theorem sqRet (h : fo ρ = .ok (d, o) ρ1) (h2 : J (.ok (.rt d o) ρ1) x) : J (mSeq (mRet fo) g ρ) x := by
  unfold mSeq M.bind; rw [ret_eq h]; exact h2
variable {α : Type} {F : α → D} {xs : List α} {v : α} {z : Int}
theorem sPutO (h1 : fe ρ = .ok (F v) ρ1) (h2 : fk ρ1 = .ok (.int z) ρ2) (h0 : ρ1[i]? = some (.ow (eL F xs))) (h : ρ2[i]? = some (.ow (eL F xs))) (hb : InB xs.length z) {ρ3 : Env} (e : ρ2.set i (.ow (eL F (setI xs z v))) = ρ3) : mPutAt i fe fk ρ = .ok .nx ρ3 := by
  obtain ⟨a, b⟩ := ixN_of hb
  unfold mPutAt M.bind
  rw [h1]; dsimp only
  unfold chk
  rw [h0]; dsimp only
  rw [h2]; dsimp only
  rw [h]; dsimp only [eL]
  rw [List.length_map, a]; dsimp only
  rw [← e]; unfold setI eL; rw [List.map_set]
theorem sApp (h1 : fe ρ = .ok (F v) ρ1) (h0 : ∃ ys : List α, ρ[i]? = some (.ow (eL F ys))) (h : ρ1[i]? = some (.ow (eL F xs))) (hl : xs.length < 10000) (e : ρ1.set i (.ow (eL F (xs ++ [v]))) = ρ2) : mApp1 i fe ρ = .ok .nx ρ2 := by
  obtain ⟨ys, h0⟩ := h0
  unfold mApp1 M.bind chkL
  dsimp only
  rw [h0]; dsimp only [eL]
  rw [h1]; dsimp only
  unfold mUpd
  rw [h]; dsimp only [eL]
  rw [if_pos (by rw [List.length_map]; exact hl)]; dsimp only
  rw [← e]; unfold eL; rw [List.map_append]; rfl
end
end Dt
namespace Dt
open PySem L2
section
variable {β γ σ : Type}
def JN (ctx : σ → Env) (r : Rs Fl) (s : σ) : Prop := r = .ok .nx (ctx s)
def JR (F : β → D) (o : Ob) (r : Rs Fl) (x : β) : Prop := ∃ ρ', r = .ok (.rt (F x) o) ρ'
def JI (j : Nat) (F : β → D) (G : γ → D) (o : Ob) (r : Rs Fl) (x : β × γ) : Prop := ∃ ρ', r = .ok (.rt (F x.1) o) ρ' ∧ ρ'[j]? = some (.io (G x.2))
def JE (r : Rs Fl) (_ : Unit) : Prop := ∃ ρ', r = .ok .nx ρ'
def JW0 (ctx : σ → Env) (J : Rs Fl → β → Prop) (r : Rs Fl) (w : Fw σ β) : Prop := match w with
  | .nx s => r = .ok .nx (ctx s)
  | .rt v => J r v
structure JW (ctx : σ → Env) (J : Rs Fl → β → Prop) (r : Rs Fl) (w : Fw σ β) : Prop where
  h : JW0 ctx J r w
theorem jw_rt {ctx : σ → Env} {J : Rs Fl → β → Prop} {r : Rs Fl} {v : β} (h : J r v) : JW ctx J r (.rt v) := ⟨h⟩
theorem jw_nx {ctx : σ → Env} {J : Rs Fl → β → Prop} {r : Rs Fl} {s : σ} (h : r = .ok .nx (ctx s)) : JW ctx J r (.nx s) := ⟨h⟩
variable {n j : Nat} {fb : M Fl} {ds : List D} {F : β → D} {G : γ → D} {o : Ob} {ρ : Env}
theorem jr_mk {x : β} {d : D} (e : d = F x) : JR F o (.ok (.rt d o) ρ) x := ⟨ρ, by rw [e]⟩
theorem ji_mk {a : β} {b : γ} {d : D} (e : d = F a) (h : ρ[j]? = some (.io (G b))) : JI j F G o (.ok (.rt d o) ρ) (a, b) := ⟨ρ, by rw [e], h⟩
theorem run0 {x : β} (h : JR F o (fb (initE none n ds)) x) : runF none n fb ds = .ok (F x) o .non := by
  obtain ⟨ρ', h⟩ := h
  unfold runF; rw [h]; rfl
theorem runI {x : β × γ} (h : JI j F G o (fb (initE (some j) n ds)) x) : runF (some j) n fb ds = .ok (F x.1) o (G x.2) := by
  obtain ⟨ρ', h, h2⟩ := h
  unfold runF; rw [h]; dsimp only; unfold fin; dsimp only; rw [h2]
theorem runE {x : Unit} (h : JE (fb (initE none n ds)) x) : runF none n fb ds = .ok (eN x) .ff .non := by
  obtain ⟨ρ', h⟩ := h
  unfold runF; rw [h]; rfl
def IsRt (J : Rs Fl → β → Prop) : Prop := ∀ r v, J r v → ∃ d o ρ', r = .ok (.rt d o) ρ'
theorem isRt_R : IsRt (JR F o) := fun r v ⟨ρ', h⟩ => ⟨_, _, ρ', h⟩
end
section
variable {α β γ σ : Type} {F : α → D} {f : M (List D)} {g : D → Env → Option Env} {b k : M Fl} {ρ : Env} {ctx : σ → Env}
theorem forL_fl {step : σ → α → σ} {S : σ → α → Prop} (hb : ∀ s x, S s x → ∃ ρ1, g (F x) (ctx s) = some ρ1 ∧ JN ctx (b ρ1) (step s x)) : ∀ (xs : List α) (s : σ), sfl step S xs s → mForL g b (xs.map F) (ctx s) = .ok .nx (ctx (xs.foldl step s))
  | [], s, _ => rfl
  | x :: r, s, h => by
    obtain ⟨ρ1, h1, h2⟩ := hb s x h.1
    unfold JN at h2
    rw [List.map_cons]
    unfold mForL
    rw [h1]; dsimp only
    unfold M.bind
    rw [h2]
    exact forL_fl hb r _ h.2
theorem forN {step : σ → α → σ} {S : σ → α → Prop} {xs : List α} {s : σ} (hf : f ρ = .ok (xs.map F) (ctx s)) (hs : sfl step S xs s) (hb : ∀ s x, S s x → ∃ ρ1, g (F x) (ctx s) = some ρ1 ∧ JN ctx (b ρ1) (step s x)) : mFor f g b ρ = .ok .nx (ctx (xs.foldl step s)) := by
  unfold mFor M.bind
  rw [hf]
  exact forL_fl hb xs s hs
theorem forL_fw {J' : Rs Fl → β → Prop} {step : σ → α → Fw σ β} {S : σ → α → Prop} (hi : IsRt J') (hb : ∀ s x, S s x → ∃ ρ1, g (F x) (ctx s) = some ρ1 ∧ JW ctx J' (b ρ1) (step s x)) : ∀ (xs : List α) (s : σ), sflw step S xs s → JW ctx J' (mForL g b (xs.map F) (ctx s)) (flw step xs s)
  | [], s, _ => jw_nx rfl
  | x :: r, s, h => by
    obtain ⟨ρ1, h1, h2⟩ := hb s x h.1
    have h3 := h.2
    rw [List.map_cons]
    unfold mForL flw
    rw [h1]; dsimp only
    unfold M.bind
    cases q : step s x with
    | nx s' =>
      rw [q] at h2 h3
      have h2' : b ρ1 = .ok .nx (ctx s') := h2.h
      rw [h2']
      exact forL_fw hi hb r s' h3
    | rt v =>
      rw [q] at h2
      have h2' : J' (b ρ1) v := h2.h
      obtain ⟨d, o, ρ', e⟩ := hi _ _ h2'
      rw [e] at h2' ⊢
      exact jw_rt h2'
theorem forW {J : Rs Fl → γ → Prop} {J' : Rs Fl → β → Prop} {kr : β → γ} {kn : σ → γ} {step : σ → α → Fw σ β} {S : σ → α → Prop} {S2 : σ → Prop} {xs : List α} {s : σ} (hi : IsRt J') (hr : ∀ r v, J' r v → J r (kr v)) (hf : f ρ = .ok (xs.map F) (ctx s)) (hs : sflw step S xs s) (hs2 : sfwc (flw step xs s) S2)
    (hb : ∀ s x, S s x → ∃ ρ1, g (F x) (ctx s) = some ρ1 ∧ JW ctx J' (b ρ1) (step s x)) (hk : ∀ s, S2 s → J (k (ctx s)) (kn s)) : J (mSeq (mFor f g b) k ρ) (fwc (flw step xs s) kr kn) := by
  have h := forL_fw hi hb xs s hs
  have e : mFor f g b ρ = mForL g b (xs.map F) (ctx s) := by unfold mFor M.bind; rw [hf]
  unfold mSeq M.bind
  rw [e]
  cases q : flw step xs s with
  | nx s' =>
    rw [q] at h hs2
    have h' : mForL g b (xs.map F) (ctx s) = .ok .nx (ctx s') := h.h
    rw [h']
    exact hk s' hs2
  | rt v =>
    rw [q] at h
    have h' : J' (mForL g b (xs.map F) (ctx s)) v := h.h
    obtain ⟨d, o, ρ', e2⟩ := hi _ _ h'
    rw [e2] at h' ⊢
    exact hr _ _ h'
end
structure Gd (n : Nat) {α : Type} (F : α → D) : Prop where
  ok : ∀ x, okD n (F x) = true
  pl : ∀ x, plD n (F x) = true
  inj : ∀ x y, F x = F y → x = y
section
variable {n m : Nat} {α β γ δ : Type} {F : α → D} {G : β → D} {H : γ → D} {K : δ → D}
theorem okD_up : ∀ {n m : Nat} {d : D}, n ≤ m → okD n d = true → okD m d = true
  | n, m, .non, _, _ => okD_non
  | n, m, .bl _, _, _ => okD_bl
  | n, m, .int _, _, _ => okD_int
  | n, m, .str x, _, h => by cases n <;> cases m <;> exact h
  | 0, _, .lst _, _, h => by cases h
  | 0, _, .tup _, _, h => by cases h
  | 0, _, .scr _, _, h => by cases h
  | n, m, .dic _ _, _, h => by cases n <;> cases h
  | n, m, .dct _ _, _, h => by cases n <;> cases h
  | n, m, .obj _, _, h => by cases n <;> cases h
  | 0, _, .key _, _, h => by cases h
  | n + 1, m + 1, .key _, _, h => h
  | n + 1, 0, _, hm, _ => by omega
  | n + 1, m + 1, .lst xs, hm, h => by
    rw [okD_lst, List.all_eq_true] at h ⊢
    exact fun x hx => okD_up (by omega) (h x hx)
  | n + 1, m + 1, .tup xs, hm, h => by
    rw [okD_tup, List.all_eq_true] at h ⊢
    exact fun x hx => okD_up (by omega) (h x hx)
  | n + 1, m + 1, .scr _, _, _ => rfl
theorem plD_up : ∀ {n m : Nat} {d : D}, n ≤ m → plD n d = true → plD m d = true
  | n, m, .non, _, _ => plD_non
  | n, m, .bl _, _, h => by cases n <;> cases h
  | n, m, .int _, _, _ => plD_int
  | n, m, .str x, _, h => by cases m <;> rfl
  | 0, _, .lst _, _, h => by cases h
  | 0, _, .tup _, _, h => by cases h
  | n, _, .scr _, _, h => by cases n <;> cases h
  | n, _, .dic _ _, _, h => by cases n <;> cases h
  | n, _, .dct _ _, _, h => by cases n <;> cases h
  | n, _, .obj _, _, h => by cases n <;> cases h
  | n, _, .key _, _, h => by cases n <;> cases h
  | n + 1, 0, _, hm, _ => by omega
  | n + 1, m + 1, .lst xs, hm, h => by
    rw [plD_lst, List.all_eq_true] at h ⊢
    exact fun x hx => plD_up (by omega) (h x hx)
  | n + 1, m + 1, .tup xs, hm, h => by
    rw [plD_tup, List.all_eq_true] at h ⊢
    exact fun x hx => plD_up (by omega) (h x hx)
theorem Gd.up (h : Gd n F) (l : n ≤ m) : Gd m F := ⟨fun x => okD_up l (h.ok x), fun x => plD_up l (h.pl x), h.inj⟩
theorem gI : Gd 0 D.int := ⟨fun _ => rfl, fun _ => rfl, fun x y h => by injection h⟩
theorem gQ : Gd 1 fq := ⟨fun _ => rfl, fun _ => rfl, fun x y h => by
  injection h with h
  injection h with h1 h
  injection h with h2 h
  injection h1 with h1
  injection h2 with h2
  exact Rat.ext h1 (by omega)⟩
theorem map_inj (h : ∀ x y, F x = F y → x = y) : ∀ {xs ys : List α}, xs.map F = ys.map F → xs = ys
  | [], [], _ => rfl
  | [], _ :: _, e => by cases e
  | _ :: _, [], e => by cases e
  | x :: xs, y :: ys, e => by
    injection e with e1 e2
    rw [h x y e1, map_inj h e2]
theorem gL (h : Gd n F) : Gd (n + 1) (eL F) := ⟨fun xs => by
    show (xs.map F).all (okD n) = true
    rw [List.all_map, List.all_eq_true]; exact fun x _ => h.ok x, fun xs => by
    show (xs.map F).all (plD n) = true
    rw [List.all_map, List.all_eq_true]; exact fun x _ => h.pl x, fun x y e => by injection e with e; exact map_inj h.inj e⟩
theorem gT2 (h : Gd n F) (k : Gd n G) : Gd (n + 1) (eT2 F G) := ⟨fun p => by
    show (okD n (F p.1) && (okD n (G p.2) && true)) = true
    rw [h.ok, k.ok]; rfl, fun p => by
    show (plD n (F p.1) && (plD n (G p.2) && true)) = true
    rw [h.pl, k.pl]; rfl, fun x y e => by
    injection e with e
    injection e with e1 e
    injection e with e2 e
    exact Prod.ext (h.inj _ _ e1) (k.inj _ _ e2)⟩
theorem gT3 (h : Gd n F) (k : Gd n G) (l : Gd n H) : Gd (n + 1) (eT3 F G H) := ⟨fun p => by
    show (okD n (F p.1) && (okD n (G p.2.1) && (okD n (H p.2.2) && true))) = true
    rw [h.ok, k.ok, l.ok]; rfl, fun p => by
    show (plD n (F p.1) && (plD n (G p.2.1) && (plD n (H p.2.2) && true))) = true
    rw [h.pl, k.pl, l.pl]; rfl, fun x y e => by
    injection e with e
    injection e with e1 e
    injection e with e2 e
    injection e with e3 e
    exact Prod.ext (h.inj _ _ e1) (Prod.ext (k.inj _ _ e2) (l.inj _ _ e3))⟩
theorem Gd.gd (h : Gd n F) (l : n ≤ 20 := by decide) (x : α) : gdD (F x) := ⟨okD_up l (h.ok x), plD_up l (h.pl x)⟩
theorem o_eq [DecidableEq α] (h : Gd n F) {x y : α} (l : n ≤ 20 := by decide) : dEq (F x) (F y) = some (.bl (decide (x = y))) := by
  by_cases q : x = y
  · subst q; rw [dEq_self (h.gd l x)]; simp
  · rw [dEq_ne (h.gd l x) (h.gd l y) (fun z => q (h.inj x y z))]; simp [q]
theorem o_ne [DecidableEq α] (h : Gd n F) {x y : α} (l : n ≤ 20 := by decide) : dNe (F x) (F y) = some (.bl (!decide (x = y))) := dNe_not (o_eq h l)
structure Gx (n : Nat) {α : Type} (F : α → D) : Prop where
  pl : ∀ x, plD n (F x) = true
  inj : ∀ x y, F x = F y → x = y
theorem Gd.gx (h : Gd n F) : Gx n F := ⟨h.pl, h.inj⟩
theorem Gx.up (h : Gx n F) (l : n ≤ m) : Gx m F := ⟨fun x => plD_up l (h.pl x), h.inj⟩
theorem xSt : Gx 0 D.str := ⟨fun _ => rfl, fun x y h => by injection h⟩
theorem xL (h : Gx n F) : Gx (n + 1) (eL F) := ⟨fun xs => by
    show (xs.map F).all (plD n) = true
    rw [List.all_map, List.all_eq_true]; exact fun x _ => h.pl x, fun x y e => by injection e with e; exact map_inj h.inj e⟩
theorem xT4 (h : Gx n F) (k : Gx n G) (l : Gx n H) (m : Gx n K) : Gx (n + 1) (eT4 F G H K) := ⟨fun p => by
    show (plD n (F p.1) && (plD n (G p.2.1) && (plD n (H p.2.2.1) && (plD n (K p.2.2.2) && true)))) = true
    rw [h.pl, k.pl, l.pl, m.pl]; rfl, fun x y e => by
    injection e with e
    injection e with e1 e
    injection e with e2 e
    injection e with e3 e
    injection e with e4 e
    exact Prod.ext (h.inj _ _ e1) (Prod.ext (k.inj _ _ e2) (Prod.ext (l.inj _ _ e3) (m.inj _ _ e4)))⟩
def Gy (n : Nat) {α : Type} (F : α → D) : Prop := ∀ x, plD n (F x) = true
theorem yNum : Gy 2 eNum := fun x => by
    cases x with
    | inl r => exact (gL gQ).gx.pl r
    | inr c => exact ((gL gI).gx.up (by decide : 1 ≤ 2)).pl c
theorem Gy.up (h : Gy n F) (l : n ≤ m) : Gy m F := fun x => plD_up l (h x)
theorem yT2 (h : Gy n F) (k : Gy n G) : Gy (n + 1) (eT2 F G) := fun p => by
    show (plD n (F p.1) && (plD n (G p.2) && true)) = true
    rw [h, k]; rfl
theorem yT3 (h : Gy n F) (k : Gy n G) (l : Gy n H) : Gy (n + 1) (eT3 F G H) := fun p => by
    show (plD n (F p.1) && (plD n (G p.2.1) && (plD n (H p.2.2) && true))) = true
    rw [h, k, l]; rfl
theorem xLine : Gx 3 eLine := xT4 (n := 2) (gL gQ).gx (gQ.gx.up (by decide)) (gI.gx.up (by decide)) (xSt.up (by decide))
theorem gStand : Gd 4 eStand := gT3 (n := 3) (gI.up (by decide)) (gQ.up (by decide)) (gL (gT2 (n := 1) (gI.up (by decide)) gQ))
theorem yC : Gy 3 eC := yT2 (n := 2) (Gy.up (n := 0) (fun _ => rfl) (by decide)) yNum
theorem yNet : Gy 6 eNet := yT3 (n := 5) (((xL xLine).up (by decide)).pl) (gL gStand).pl (yC.up (by decide))
def OkE (F : α → D) (x : α) : Prop := okD 20 (F x) = true
theorem o_eqx [DecidableEq α] (h : Gx n F) {x y : α} (hx : OkE F x) (hy : OkE F y) (l : n ≤ 20 := by decide) : dEq (F x) (F y) = some (.bl (decide (x = y))) := by
  by_cases q : x = y
  · subst q; rw [dEq_self ⟨hx, plD_up l (h.pl x)⟩]; simp
  · rw [dEq_ne ⟨hx, plD_up l (h.pl x)⟩ ⟨hy, plD_up l (h.pl y)⟩ (fun z => q (h.inj x y z))]; simp [q]
theorem o_eqy [DecidableEq α] (h : Gy n F) {x y : α} (hx : OkE F x) (hy : OkE F y) (hi : F x = F y → x = y) (l : n ≤ 20 := by decide) : dEq (F x) (F y) = some (.bl (decide (x = y))) := by
  by_cases q : x = y
  · subst q; rw [dEq_self ⟨hx, plD_up l (h x)⟩]; simp
  · rw [dEq_ne ⟨hx, plD_up l (h x)⟩ ⟨hy, plD_up l (h y)⟩ (fun z => q (hi z))]; simp [q]
theorem o_ney [DecidableEq α] (h : Gy n F) {x y : α} (hx : OkE F x) (hy : OkE F y) (hi : F x = F y → x = y) (l : n ≤ 20 := by decide) : dNe (F x) (F y) = some (.bl (!decide (x = y))) := dNe_not (o_eqy h hx hy hi l)
end
section
variable {ρ ρ1 ρ2 : Env} {i : Nat} {α : Type} {F : α → D} {xs : List α} {fk fe f2 : M D} {z : Int} {d y : D} {c : Bool} {T : String}
theorem contR_some {s : Option Slot} {d : D} (h : contR s = some d) : ∃ t, s = some t ∧ ∀ ρ : Env, ∀ i : Nat, ρ[i]? = s → chk i ρ = .ok () ρ := by
  cases s with
  | none => cases h
  | some t =>
    refine ⟨t, rfl, fun ρ i q => ?_⟩
    unfold chk
    rw [q]
    cases t with
    | un => cases h
    | fz _ => rfl
    | ow _ => rfl
    | io _ => rfl
    | dp _ _ => cases h
theorem chk_of {d : D} (h : contR ρ[i]? = some d) : chk i ρ = .ok () ρ := by
  obtain ⟨t, e, k⟩ := contR_some h
  exact k ρ i rfl
theorem pk [Inhabited α] (h0 : contR ρ[i]? = some (eL F xs)) (h1 : fk ρ = .ok (.int z) ρ1) (h2 : contR ρ1[i]? = some (eL F xs)) (hb : InB xs.length z) : mPeek i fk ρ = .ok (F (ix xs z)) ρ1 := by
  unfold mPeek M.bind
  rw [chk_of h0]; dsimp only
  rw [h1]; dsimp only
  rw [h2]; dsimp only [Option.bind]
  rw [o_ixLL hb]
theorem isV {f : M D} (h : f ρ = .ok d ρ1) (h3 : dIsi T d = some (.bl c)) : mIsi T f ρ = .ok (.bl c) ρ1 := by
  unfold mIsi M.bind; rw [h]; dsimp only; unfold M.opt; rw [h3]
theorem any_in [DecidableEq α] (hf : ∀ x, flatD (F x) = true) (he : ∀ x y, eqF (F x) (F y) = decide (x = y)) (x : α) : ∀ xs : List α, (xs.map F).any (fun y => eqF y (F x)) = decide (x ∈ xs)
  | [] => by simp
  | y :: ys => by
    rw [List.map_cons, List.any_cons, any_in hf he x ys, he y x]
    by_cases q : y = x
    · simp [q]
    · simp [q, Ne.symm q]
theorem o_ninI {x : Int} {ys : List Int} : dIn true (.int x) (eL D.int ys) = some (.bl (!decide (x ∈ ys))) := by
  unfold dIn eL
  dsimp only
  rw [if_pos ⟨rfl, by rw [List.all_map, List.all_eq_true]; exact fun _ _ => rfl⟩, any_in (fun _ => rfl) (fun a b => by show (a == b) = _; rw [Bool.beq_eq_decide_eq])]
  rfl
theorem o_inSV {x : Str} {ys : List Str} : dIn false (.str x) (eV D.str ys) = some (.bl (decide (x ∈ ys))) := by
  unfold dIn eV
  dsimp only
  rw [if_pos ⟨rfl, by rw [List.all_map, List.all_eq_true]; exact fun _ _ => rfl⟩, any_in (fun _ => rfl) (fun a b => by show (a == b) = _; rw [Bool.beq_eq_decide_eq])]
  rfl
theorem o_lenNum {x : Num} : dLen [eNum x] = some (.int (numLen x : Int)) := by
  cases x with
  | inl r => exact o_lenL
  | inr c => exact o_lenL
theorem lofNum {fs : M (List D)} {x : Num} (h : fs ρ = .ok [eNum x] ρ1) : mListOf fs ρ = .ok (eNum x, .tt) ρ1 := by
  cases x with
  | inl r => exact lofL h
  | inr c => exact lofL h
theorem cNumQ {f : M D} {x : Num} (h : f ρ = .ok (eNum x) ρ1) (k : x.isLeft = true) : f ρ = .ok (eL fq (numQ x)) ρ1 := by
  cases x with
  | inl r => exact h
  | inr c => cases k
theorem cNumI {f : M D} {x : Num} (h : f ρ = .ok (eNum x) ρ1) (k : x.isRight = true) : f ρ = .ok (eL D.int (numI x)) ρ1 := by
  cases x with
  | inr r => exact h
  | inl c => cases k
theorem mkq_enc {p : Int × Int} (h : IsQ p) : eT2 D.int D.int p = fq (mkq p) := by
  obtain ⟨a, b⟩ := p
  obtain ⟨h1, h2⟩ := h
  dsimp only at h1 h2
  unfold fq mkq eT2
  dsimp only
  rw [Rat.num_divInt, Rat.den_divInt, if_neg (by omega), Int.gcd, Nat.gcd_comm, h2, Int.sign_eq_one_of_pos h1]
  simp
  omega
theorem cQ {f : M D} {p : Int × Int} (h : f ρ = .ok (eT2 D.int D.int p) ρ1) (k : IsQ p) : f ρ = .ok (fq (mkq p)) ρ1 := by rw [h, mkq_enc k]
theorem bdh {P Q : Prop} (h : P) (k : P → Q) : Q := k h
theorem sAss {β : Type} {J : Rs Fl → β → Prop} {a b k : M Fl} {x : β} (h : J (mSeq a (mSeq b k) ρ) x) : J (mSeq (mSeq a b) k ρ) x := by
  have e : mSeq (mSeq a b) k ρ = mSeq a (mSeq b k) ρ := by
    unfold mSeq M.bind
    cases a ρ with
    | ok fl ρ' => cases fl <;> rfl
    | rz c ρ' => rfl
    | fail => rfl
  rw [e]; exact h
theorem jnE {σ : Type} {ctx : σ → Env} {r : Rs Fl} {s : σ} (h : JN ctx r s) : r = .ok .nx (ctx s) := h
end
end Dt
namespace Std
open PySem PySem.Spec PyProof.Rows L2 Dt
noncomputable def fb_common : M Fl :=
  mSeq (mWh (mTest (mBin dNe (mVar 1) (M.pure (.int 0)))) (mPar 0 1 (mCons (mVar 1) (mCons (mBin dMod (mVar 0) (mVar 1)) (mNil)))))
    (mRet (mMove 0))
noncomputable def fn_common : List D → Rf := runF none 2 fb_common
noncomputable def fb_fraction : M Fl :=
  mSeq (mIf (mTest (mBin dEq (mVar 1) (M.pure (.int 0)))) (M.raise "NoFraction") (mNx))
    (mSeq (mSet 2 (mCallN 2 none fn_common (xV (mCall dAbs (mCons (mVar 0) (mNil))) (xV (mCall dAbs (mCons (mVar 1) (mNil))) (xNil)))))
    (mSeq (mIf (mTest (mBin dLt (mVar 1) (M.pure (.int 0)))) (mSet 2 (mOf (mBin dSub (M.pure (.int 0)) (mVar 2)))) (mNx))
    (mRet (mOf (mTup (mCons (mBin dDiv (mVar 0) (mVar 2)) (mCons (mBin dDiv (mVar 1) (mVar 2)) (mNil))))))))
noncomputable def fn_fraction : List D → Rf := runF none 3 fb_fraction
noncomputable def fb_plus : M Fl :=
  mRet (mCallN 2 none fn_fraction (xV (mBin dAdd (mBin dMul (mBin dIx (mVar 0) (M.pure (.int 0))) (mBin dIx (mVar 1) (M.pure (.int 1)))) (mBin dMul (mBin dIx (mVar 1) (M.pure (.int 0))) (mBin dIx (mVar 0) (M.pure (.int 1))))) (xV (mBin dMul (mBin dIx (mVar 0) (M.pure (.int 1))) (mBin dIx (mVar 1) (M.pure (.int 1)))) (xNil))))
noncomputable def fn_plus : List D → Rf := runF none 2 fb_plus
noncomputable def fb_is_less : M Fl :=
  mRet (mOf (mBin dLt (mBin dMul (mBin dIx (mVar 0) (M.pure (.int 0))) (mBin dIx (mVar 1) (M.pure (.int 1)))) (mBin dMul (mBin dIx (mVar 1) (M.pure (.int 0))) (mBin dIx (mVar 0) (M.pure (.int 1))))))
noncomputable def fn_is_less : List D → Rf := runF none 2 fb_is_less
noncomputable def fb_total : M Fl :=
  mSeq (mSet 1 (mOf (M.pure (.tup [(.int 0), (.int 1)]))))
    (mSeq (mFor (mIter (mVar 0)) (gN 2) (mSet 1 (mCallN 2 none fn_plus (xV (mVar 1) (xV (mVar 2) (xNil))))))
    (mRet (mMove 1)))
noncomputable def fn_total : List D → Rf := runF none 3 fb_total
noncomputable def fb__law_stream : M Fl :=
  mSeq (mIf (mTest (mBin dLt (mVar 1) (mCall dLen (mCons (mVar 0) (mNil))))) (mSeq (mSet 2 (mOf (mBin dIx (mVar 0) (mVar 1))))
    (mSeq (mSet 3 (mOf (mBin dAdd (mBin dAdd (mBin dMod (mVar 2) (M.pure (.int 2147483629))) (mBin dMul (mVar 1) (mVar 1))) (M.pure (.int 1)))))
    (mSeq (mIf (mTest (mBin dLt (mVar 2) (mBin dPow (M.pure (.int 10)) (M.pure (.int 18))))) (mSet 2 (mOf (M.pure (.int 0)))) (mNx))
    (mRet (mLst (mCons (mVar 2) (mCons (mVar 3) (mNil)))))))) (mNx))
    (mRet (mLst (mCons (M.pure (.int 0)) (mCons (mBin dAdd (mBin dMul (mVar 1) (mVar 1)) (M.pure (.int 11))) (mNil)))))
noncomputable def fn__law_stream : List D → Rf := runF none 4 fb__law_stream
noncomputable def fb__law_take : M Fl :=
  mSeq (mIf (mTest (mBin dEq (mPeek 0 (M.pure (.int 0))) (M.pure (.int 0)))) (mSeq (mPutAt 0 (mBin dMod (mBin dAdd (mBin dMul (mPeek 0 (M.pure (.int 1))) (M.pure (.int 48271))) (M.pure (.int 12345))) (M.pure (.int 2147483647))) (M.pure (.int 1)))
    (mRet (mOf (mBin dMod (mBin dMod (mBin dMul (mPeek 0 (M.pure (.int 1))) (mPeek 0 (M.pure (.int 1)))) (M.pure (.int 2147483629))) (mVar 1))))) (mNx))
    (mSeq (mSet 2 (mOf (mBin dMod (mPeek 0 (M.pure (.int 0))) (mVar 1))))
    (mSeq (mPutAt 0 (mBin dDiv (mPeek 0 (M.pure (.int 0))) (mVar 1)) (M.pure (.int 0)))
    (mRet (mMove 2))))
noncomputable def fn__law_take : List D → Rf := runF (some 0) 3 fb__law_take
noncomputable def fb__law_fraction : M Fl :=
  mSeq (mSet 2 (mOf (mCall dAbs (mCons (mVar 0) (mNil)))))
    (mSeq (mSet 3 (mOf (mVar 1)))
    (mSeq (mWh (mTest (mBin dGt (mVar 3) (M.pure (.int 0)))) (mPar 2 3 (mCons (mVar 3) (mCons (mBin dMod (mVar 2) (mVar 3)) (mNil)))))
    (mRet (mOf (mTup (mCons (mBin dDiv (mVar 0) (mVar 2)) (mCons (mBin dDiv (mVar 1) (mVar 2)) (mNil))))))))
noncomputable def fn__law_fraction : List D → Rf := runF none 4 fb__law_fraction
end Std
namespace Std
open PySem L2 Dt
theorem common_loop : ∀ (n a b : Nat), b < n → mWhN (mTest (mBin dNe (mVar 1) (M.pure (.int 0)))) (mPar 0 1 (mCons (mVar 1) (mCons (mBin dMod (mVar 0) (mVar 1)) (mNil)))) n [.fz (.int a), .fz (.int b)] = .ok .nx [.fz (.int (Nat.gcd a b : Nat)), .fz (.int 0)]
  | 0, a, b, h => by omega
  | n + 1, a, 0, h => by
    unfold mWhN
    simp
  | n + 1, a, b + 1, h => by
    unfold mWhN
    have e : ((a : Int).fmod ((b + 1 : Nat) : Int)) = ((a % (b + 1) : Nat) : Int) := by
      rw [Int.fmod_eq_emod_of_nonneg _ (by omega)]; rfl
    have hb : ((b + 1 : Nat) : Int) ≠ 0 := by omega
    have ih := common_loop n (b + 1) (a % (b + 1)) (by have := Nat.mod_lt a (show 0 < b + 1 by omega); omega)
    have hz : decide (((b + 1 : Nat) : Int) = 0) = false := decide_eq_false hb
    simp only [bind_ap, test_ap, bin_ap, var_ap, List.getElem?_cons_succ, List.getElem?_cons_zero, ok_bnd, pure_ap, opt_some, dNe_i, hz, Bool.not_false, asBl_bl, par_ap, cons_ap, nil_ap, dMod_i, modOk_of hb, if_true, List.set_cons_zero, List.set_cons_succ, e]
    rw [ih]
    congr 4
    rw [Nat.gcd_comm a (b + 1), Nat.gcd_rec (b + 1) a, Nat.gcd_comm]
theorem common_ok (a b : Nat) : fn_common [.int a, .int b] = .ok (.int (Nat.gcd a b : Nat)) .ff .non := by
  have h := common_loop (b + 1) a b (by omega)
  have hw := mWh_eq (t := mTest (mBin dNe (mVar 1) (M.pure (.int 0)))) (b := mPar 0 1 (mCons (mVar 1) (mCons (mBin dMod (mVar 0) (mVar 1)) (mNil)))) (n := b + 1) (ρ := [.fz (.int a), .fz (.int b)]) (by rw [h]; intro z; cases z)
  rw [h] at hw
  unfold fn_common runF fb_common
  simp [hw]
theorem e_common {a b : Int} (h : 0 ≤ a ∧ 0 ≤ b) : fn_common [.int a, .int b] = .ok (.int ((Nat.gcd a.toNat b.toNat : Nat) : Int)) .ff .non := by
  have := common_ok a.toNat b.toNat
  rw [Int.toNat_of_nonneg h.1, Int.toNat_of_nonneg h.2] at this
  exact this
theorem num_div (a b : Int) : (Rat.divInt a b).num = b.sign * a / ((Nat.gcd a.natAbs b.natAbs : Nat) : Int) := by
  rw [Rat.num_divInt, Int.gcd, Nat.gcd_comm]
theorem den_div {a b : Int} (hb : b ≠ 0) : (Rat.divInt a b).den = b.natAbs / Nat.gcd a.natAbs b.natAbs := by
  rw [Rat.den_divInt, if_neg hb, Int.gcd, Nat.gcd_comm]
theorem frac_pair {a b : Int} (hb : b ≠ 0) (s : Int) (hs : s = if b < 0 then 0 - ((Nat.gcd a.natAbs b.natAbs : Nat) : Int) else ((Nat.gcd a.natAbs b.natAbs : Nat) : Int)) :
    D.tup [.int (a.fdiv s), .int (b.fdiv s)] = fq (Rat.divInt a b) := by
  have hg : 0 < Nat.gcd a.natAbs b.natAbs := Nat.gcd_pos_of_pos_right _ (by omega)
  have da : ((Nat.gcd a.natAbs b.natAbs : Nat) : Int) ∣ a := Int.ofNat_dvd_left.mpr (Nat.gcd_dvd_left _ _)
  have db : ((Nat.gcd a.natAbs b.natAbs : Nat) : Int) ∣ b := Int.ofNat_dvd_left.mpr (Nat.gcd_dvd_right _ _)
  unfold fq
  rw [num_div, den_div hb, Int.natCast_ediv]
  generalize hG : ((Nat.gcd a.natAbs b.natAbs : Nat) : Int) = g at *
  by_cases h : b < 0
  · rw [if_pos h] at hs
    have es : s = -g := by omega
    rw [es, Int.fdiv_eq_ediv_of_dvd (Int.neg_dvd.mpr da), Int.fdiv_eq_ediv_of_dvd (Int.neg_dvd.mpr db), Int.sign_eq_neg_one_of_neg h, Int.ediv_neg, Int.ediv_neg]
    have e1 : (-1 * a) / g = -(a / g) := by
      rw [show -1 * a = -a by omega, Int.neg_ediv_of_dvd da]
    have e2 : ((b.natAbs : Nat) : Int) / g = -(b / g) := by
      rw [show ((b.natAbs : Nat) : Int) = -b by omega, Int.neg_ediv_of_dvd db]
    rw [e1, e2]
  · rw [if_neg h] at hs
    rw [hs, Int.fdiv_eq_ediv_of_dvd da, Int.fdiv_eq_ediv_of_dvd db, Int.sign_eq_one_of_pos (by omega)]
    rw [show ((b.natAbs : Nat) : Int) = b by omega, show (1 : Int) * a = a by omega]
theorem e_fraction {a b : Int} (hb : b ≠ 0) : fn_fraction [.int a, .int b] = .ok (fq (Rat.divInt a b)) .ff .non := by
  have hg : 0 < Nat.gcd a.natAbs b.natAbs := Nat.gcd_pos_of_pos_right _ (by omega)
  unfold fn_fraction runF fb_fraction
  by_cases h : b < 0
  · rw [← frac_pair (a := a) hb (-((Nat.gcd a.natAbs b.natAbs : Nat) : Int)) (by rw [if_pos h]; omega)]
    have hd : ∀ x : Int, divOk x (-((Nat.gcd a.natAbs b.natAbs : Nat) : Int)) = true := fun x => divOk_of (by omega)
    simp [hb, common_ok, h, hd]
  · rw [← frac_pair (a := a) hb ((Nat.gcd a.natAbs b.natAbs : Nat) : Int) (by rw [if_neg h])]
    have hd : ∀ x : Int, divOk x ((Nat.gcd a.natAbs b.natAbs : Nat) : Int) = true := fun x => divOk_of (by omega)
    simp [hb, common_ok, h, hd]
def Sz (n : Nat) (q : Rat) : Prop := q.num.natAbs < 2 ^ n ∧ q.den < 2 ^ n
theorem den_pos (q : Rat) : 0 < q.den := Nat.pos_of_ne_zero q.den_nz
theorem sz_div {a b : Int} {n : Nat} (hb : b ≠ 0) (h1 : a.natAbs < 2 ^ n) (h2 : b.natAbs < 2 ^ n) : Sz n (Rat.divInt a b) := by
  constructor
  · rw [num_div]
    refine Nat.lt_of_le_of_lt ?_ h1
    have hg : 0 < Nat.gcd a.natAbs b.natAbs := Nat.gcd_pos_of_pos_right _ (by omega)
    rw [Int.natAbs_ediv_of_dvd]
    · refine Nat.le_trans (Nat.div_le_self _ _) ?_
      rw [Int.natAbs_mul, Int.natAbs_sign_of_ne_zero hb, Nat.one_mul]; exact Nat.le_refl _
    · exact Int.dvd_mul_of_dvd_right (Int.ofNat_dvd_left.mpr (Nat.gcd_dvd_left _ _))
  · rw [den_div hb]
    exact Nat.lt_of_le_of_lt (Nat.div_le_self _ _) h2
theorem mul_lt_two {a b n m : Nat} (ha : a < 2 ^ n) (hb : b < 2 ^ m) : a * b < 2 ^ (n + m) := by
  rw [Nat.pow_add]; exact Nat.mul_lt_mul'' ha hb
theorem add_div (p q : Rat) : Rat.divInt (p.num * (q.den : Int) + q.num * (p.den : Int)) ((p.den : Int) * (q.den : Int)) = p + q := by
  rw [Rat.add_def', ← Int.natCast_mul, Rat.divInt_ofNat]
theorem sz_add {n m : Nat} {p q : Rat} (hp : Sz n p) (hq : Sz m q) : Sz (n + m + 1) (p + q) := by
  rw [← add_div]
  have d1 := den_pos p
  have d2 := den_pos q
  have h0 : ((p.den : Int) * (q.den : Int)) ≠ 0 := Int.mul_ne_zero (by omega) (by omega)
  have m1 := mul_lt_two hp.1 hq.2
  have m2 := mul_lt_two hq.1 hp.2
  have m3 := mul_lt_two hp.2 hq.2
  refine sz_div h0 ?_ ?_
  · refine Nat.lt_of_le_of_lt (Int.natAbs_add_le _ _) ?_
    rw [Int.natAbs_mul, Int.natAbs_mul, Int.natAbs_natCast, Int.natAbs_natCast, Nat.pow_succ]
    rw [Nat.add_comm m n] at m2
    omega
  · rw [Int.natAbs_mul, Int.natAbs_natCast, Int.natAbs_natCast, Nat.pow_succ]
    omega
theorem num_pos {q : Rat} (h : 0 < q) : 0 < q.num := by
  have := (Rat.lt_iff 0 q).mp h
  simpa using this
def sz (q : Rat) : Nat := max q.num.natAbs.log2 q.den.log2 + 1
theorem lt_log (n : Nat) : n < 2 ^ (n.log2 + 1) := Nat.lt_log2_self
theorem sz_Sz (q : Rat) : Sz (sz q) q := ⟨Nat.lt_of_lt_of_le (lt_log _) (Nat.pow_le_pow_right (by decide) (by unfold sz; omega)), Nat.lt_of_lt_of_le (lt_log _) (Nat.pow_le_pow_right (by decide) (by unfold sz; omega))⟩
theorem log_le {n k : Nat} (h : n < 2 ^ k) (hk : 1 ≤ k) : n.log2 + 1 ≤ k := by
  rcases Nat.eq_zero_or_pos n with z | z
  · subst z; simpa using hk
  · exact (Nat.log2_lt (by omega)).mpr h
theorem sz_le {n : Nat} {q : Rat} (h : Sz n q) : sz q ≤ n := by
  have hn : 1 ≤ n := by
    rcases Nat.eq_zero_or_pos n with z | z
    · subst z; have := h.2; have := den_pos q; omega
    · exact z
  have h1 := log_le h.1 hn
  have h2 := log_le h.2 hn
  unfold sz; omega
theorem sz_addL (p q : Rat) : sz (p + q) ≤ sz p + sz q + 1 := sz_le (sz_add (sz_Sz p) (sz_Sz q))
theorem sz_0 : sz 0 = 1 := rfl
theorem sz_1 : sz 1 = 1 := rfl
def SQ (p q : Rat) : Prop := sz p + sz q ≤ 80000000
theorem mok {p q : Int} {a b : Nat} (hp : p.natAbs < 2 ^ a) (hq : q.natAbs < 2 ^ b) (h : a + b ≤ 90000000) : mulOk p q = true := mulOk_of hp hq h
theorem nabs_lt {k n : Nat} (h : k < 2 ^ n) : ((k : Nat) : Int).natAbs < 2 ^ n := by rw [Int.natAbs_natCast]; exact h
theorem den_mul (p q : Rat) : ((p.den : Int) * (q.den : Int)) ≠ 0 := by
  have d1 := den_pos p
  have d2 := den_pos q
  exact Int.mul_ne_zero (by omega) (by omega)
section
variable {p q : Rat}
theorem mk1 (h : SQ p q) : mulOk p.num (q.den : Int) = true := mok (sz_Sz p).1 (nabs_lt (sz_Sz q).2) (by unfold SQ at h; omega)
theorem mk2 (h : SQ p q) : mulOk q.num (p.den : Int) = true := mok (sz_Sz q).1 (nabs_lt (sz_Sz p).2) (by unfold SQ at h; omega)
theorem mk3 (h : SQ p q) : mulOk (p.den : Int) (q.den : Int) = true := mok (nabs_lt (sz_Sz p).2) (nabs_lt (sz_Sz q).2) (by unfold SQ at h; omega)
theorem e_plus (h : SQ p q) : fn_plus [fq p, fq q] = .ok (fq (p + q)) .ff .non := by
  unfold fn_plus runF fb_plus
  simp [fq, mk1 h, mk2 h, mk3 h]
  rw [e_fraction (den_mul p q), add_div]
  rfl
theorem e_is_less (h : SQ p q) : fn_is_less [fq p, fq q] = .ok (.bl (decide (p < q))) .ff .non := by
  unfold fn_is_less runF fb_is_less
  have e : decide (p < q) = decide (p.num * (q.den : Int) < q.num * (p.den : Int)) := decide_eq_decide.mpr (Rat.lt_iff p q)
  rw [e]
  simp [fq, mk1 h, mk2 h]
end
def sumQ (xs : List Rat) : Rat := xs.foldl (· + ·) 0
def tsz (xs : List Rat) : Nat := (xs.map fun x => sz x + 1).sum + 1
theorem sz_fold : ∀ (xs : List Rat) (a : Rat), sz (xs.foldl (· + ·) a) ≤ sz a + (xs.map fun x => sz x + 1).sum
  | [], a => by simp
  | x :: r, a => by
    have h1 := sz_fold r (a + x)
    have h2 := sz_addL a x
    simp only [List.foldl_cons, List.map_cons, List.sum_cons]
    omega
theorem sz_sumL (xs : List Rat) : sz (sumQ xs) ≤ tsz xs := by
  have := sz_fold xs 0
  rw [sz_0] at this
  unfold sumQ tsz; omega
theorem tsz_le {xs : List Rat} {n : Nat} (h : ∀ x ∈ xs, sz x ≤ n) : tsz xs ≤ xs.length * (n + 1) + 1 := by
  unfold tsz
  induction xs with
  | nil => simp
  | cons x r ih =>
    have h1 := ih fun y hy => h y (List.mem_cons_of_mem _ hy)
    have h2 := h x (by simp)
    simp only [List.map_cons, List.sum_cons, List.length_cons, Nat.succ_mul]
    omega
theorem total_loop : ∀ {xs : List Rat} {a : Rat} {s t : Slot}, sz a + (xs.map fun x => sz x + 1).sum ≤ 80000000 →
    ∃ t', mForL (gN 2) (mSet 1 (mCallN 2 none fn_plus (xV (mVar 1) (xV (mVar 2) (xNil))))) (xs.map fq) [s, .fz (fq a), t] = .ok .nx [s, .fz (fq (xs.foldl (· + ·) a)), t']
  | [], a, s, t, _ => ⟨t, rfl⟩
  | x :: r, a, s, t, h => by
    simp only [List.map_cons, List.sum_cons] at h
    have h1 := sz_addL a x
    obtain ⟨t', e⟩ := total_loop (xs := r) (a := a + x) (s := s) (t := .fz (fq x)) (by omega)
    refine ⟨t', ?_⟩
    rw [List.map_cons, forL_cons]
    simp -implicitDefEqProofs [e_plus (p := a) (q := x) (by unfold SQ; omega), e]
theorem e_total {xs : List Rat} (h : tsz xs ≤ 80000000) : fn_total [eL fq xs] = .ok (fq (sumQ xs)) .ff .non := by
  obtain ⟨t', e⟩ := total_loop (s := .fz (eL fq xs)) (t := .un) (xs := xs) (a := 0) (by rw [sz_0]; unfold tsz at h; omega)
  unfold fn_total runF fb_total
  unfold eL at e ⊢
  have e0 : fq 0 = .tup [.int 0, .int 1] := rfl
  rw [e0] at e
  simp -implicitDefEqProofs [e, sumQ]
theorem lawf_loop {u v : Slot} : ∀ (n a b : Nat), b < n → mWhN (mTest (mBin dGt (mVar 3) (M.pure (.int 0)))) (mPar 2 3 (mCons (mVar 3) (mCons (mBin dMod (mVar 2) (mVar 3)) (mNil)))) n [u, v, .fz (.int a), .fz (.int b)] = .ok .nx [u, v, .fz (.int (Nat.gcd a b : Nat)), .fz (.int 0)]
  | 0, a, b, h => by omega
  | n + 1, a, 0, h => by
    unfold mWhN
    simp
  | n + 1, a, b + 1, h => by
    unfold mWhN
    have e : ((a : Int).fmod ((b + 1 : Nat) : Int)) = ((a % (b + 1) : Nat) : Int) := by
      rw [Int.fmod_eq_emod_of_nonneg _ (by omega)]; rfl
    have hb : ((b + 1 : Nat) : Int) ≠ 0 := by omega
    have hb1 : (0 : Int) < ((b + 1 : Nat) : Int) := by omega
    have ih := lawf_loop (u := u) (v := v) n (b + 1) (a % (b + 1)) (by have := Nat.mod_lt a (show 0 < b + 1 by omega); omega)
    have hz : decide ((0 : Int) < ((b + 1 : Nat) : Int)) = true := decide_eq_true hb1
    simp only [bind_ap, test_ap, bin_ap, var_ap, List.getElem?_cons_succ, List.getElem?_cons_zero, ok_bnd, pure_ap, opt_some, dGt_i, hz, asBl_bl, par_ap, cons_ap, nil_ap, dMod_i, modOk_of hb, if_true, List.set_cons_zero, List.set_cons_succ, e]
    rw [ih]
    congr 6
    rw [Nat.gcd_comm a (b + 1), Nat.gcd_rec (b + 1) a, Nat.gcd_comm]
theorem e__law_fraction {a b : Int} (hb : 0 < b) : fn__law_fraction [.int a, .int b] = .ok (fq (Rat.divInt a b)) .ff .non := by
  have hg : 0 < Nat.gcd a.natAbs b.natAbs := Nat.gcd_pos_of_pos_right _ (by omega)
  have h := lawf_loop (u := .fz (.int a)) (v := .fz (.int b)) (b.natAbs + 1) a.natAbs b.natAbs (by omega)
  have hw := mWh_eq (t := mTest (mBin dGt (mVar 3) (M.pure (.int 0)))) (b := mPar 2 3 (mCons (mVar 3) (mCons (mBin dMod (mVar 2) (mVar 3)) (mNil)))) (n := b.natAbs + 1) (ρ := [.fz (.int a), .fz (.int b), .fz (.int (a.natAbs : Nat)), .fz (.int (b.natAbs : Nat))]) (by rw [h]; intro z; cases z)
  rw [h, show ((b.natAbs : Nat) : Int) = b by omega] at hw
  rw [← frac_pair (a := a) (by omega) ((Nat.gcd a.natAbs b.natAbs : Nat) : Int) (by rw [if_neg (by omega)])]
  have hd : ∀ x : Int, divOk x ((Nat.gcd a.natAbs b.natAbs : Nat) : Int) = true := fun x => divOk_of (by omega)
  unfold fn__law_fraction runF fb__law_fraction
  simp [hw, hd]
section
variable {p q : Rat}
end
structure Stm where
  c : Int
  m : Int
  c0 : 0 ≤ c
  m0 : 0 ≤ m
  m1 : m < 2 ^ 40
def eStm (s : Stm) : D := .lst [.int s.c, .int s.m]
instance : Inhabited Stm := ⟨⟨0, 0, by decide, by decide, by decide⟩⟩
def mixed (m : Int) : Int := (m * 48271 + 12345).fmod 2147483647
theorem mixed_b (m : Int) : 0 ≤ mixed m ∧ mixed m < 2147483647 := by
  unfold mixed
  rw [Int.fmod_eq_emod_of_nonneg _ (by decide)]
  omega
def t__law_take (s : Stm) (most : Int) : Int × Stm :=
  if h : s.c = 0 then (((mixed s.m * mixed s.m).fmod 2147483629).fmod most, ⟨0, mixed s.m, by decide, (mixed_b s.m).1, by have := (mixed_b s.m).2; omega⟩)
  else if h2 : 0 < most then (s.c.fmod most, ⟨s.c.fdiv most, s.m, by rw [Int.fdiv_eq_ediv_of_nonneg _ (by omega)]; exact Int.ediv_nonneg s.c0 (by omega), s.m0, s.m1⟩)
  else (0, s)
theorem e__law_take {s : Stm} {most : Int} (h0 : 0 < most) : fn__law_take [eStm s, .int most] = .ok (.int (t__law_take s most).1) .ff (eStm (t__law_take s most).2) := by
  obtain ⟨c, m, hc, hm0, hm1⟩ := s
  have hn : most ≠ 0 := by omega
  unfold fn__law_take runF fb__law_take t__law_take eStm
  by_cases z : c = 0
  · subst z
    have k1 : mulOk m 48271 = true := mok (a := 40) (b := 20) (by omega) (by decide) (by decide)
    have k2 : mulOk (mixed m) (mixed m) = true := by
      have := mixed_b m
      exact mok (a := 40) (b := 40) (by omega) (by omega) (by decide)
    have k3 := k2
    unfold mixed at k3
    simp [k1, k3, hn, mixed]
  · have k1 : divOk c most = true := divOk_of hn
    simp [z, k1, hn, h0]
theorem take_b {s : Stm} {most : Int} (h0 : 0 < most) : 0 ≤ (t__law_take s most).1 ∧ (t__law_take s most).1 < most := by
  have hn : most ≠ 0 := by omega
  unfold t__law_take
  split
  · rw [Int.fmod_eq_emod_of_nonneg _ (show (0 : Int) ≤ most by omega)]; exact ⟨Int.emod_nonneg _ hn, Int.emod_lt_of_pos _ h0⟩
  · dsimp only
    rw [Int.fmod_eq_emod_of_nonneg _ (show (0 : Int) ≤ most by omega)]; exact ⟨Int.emod_nonneg _ hn, Int.emod_lt_of_pos _ h0⟩
theorem sq_b {k : Int} (h0 : 0 ≤ k) (h1 : k < 1000) : 0 ≤ k * k ∧ k * k ≤ 1000000 :=
  ⟨Int.mul_nonneg h0 h0, by
    have : k * k ≤ 1000 * 1000 := Int.mul_le_mul (by omega) (by omega) h0 (by omega)
    omega⟩
def t__law_stream (ns : List Int) (k : Int) : Stm :=
  if h : 0 ≤ k ∧ k < 1000 then
    (if k < ns.length then ⟨if ix ns k < 1000000000000000000 then 0 else ix ns k, (ix ns k).fmod 2147483629 + k * k + 1, by split <;> omega, by
        rw [Int.fmod_eq_emod_of_nonneg _ (by decide)]
        have := sq_b h.1 h.2
        omega, by
        rw [Int.fmod_eq_emod_of_nonneg _ (by decide)]
        have := sq_b h.1 h.2
        omega⟩
    else ⟨0, k * k + 11, by decide, by have := sq_b h.1 h.2; omega, by have := sq_b h.1 h.2; omega⟩)
  else default
theorem e__law_stream {ns : List Int} {k : Int} (h : 0 ≤ k ∧ k < 1000) : fn__law_stream [.scr ns, .int k] = .ok (eStm (t__law_stream ns k)) .tt .non := by
  have k1 : mulOk k k = true := mok (a := 20) (b := 20) (by omega) (by omega) (by decide)
  unfold fn__law_stream runF fb__law_stream t__law_stream
  rw [dif_pos h]
  by_cases c : k < ns.length
  · have e : L2.atI ns k = some (ix ns k) := by
      have := at_of (F := (id : Int → Int)) (xs := ns) (i := k) ⟨by omega, c⟩
      rw [List.map_id] at this
      exact this
    have hp : powOk 10 18 = true := by decide
    rw [if_pos c]
    by_cases hx : ix ns k < 1000000000000000000
    · simp [c, e, k1, hp, hx, eStm]
    · simp [c, e, k1, hp, hx, eStm]
  · rw [if_neg c]
    simp [c, k1, eStm]
end Std
namespace Net
open PySem PySem.Spec PyProof.Rows L2 Dt
noncomputable def fb_ask : M Fl :=
  mSeq (mIf (mNot (mTest (mVar 0))) (M.bind (mVar 1) fun _ => M.raise "NoNet") mNx)
    mNx
noncomputable def fn_ask : List D → Rf := runF none 2 fb_ask
noncomputable def t_ask (v_good : Bool) (v_words : Str) : Unit :=
  cond (!v_good) default ()
def s_ask (v_good : Bool) (v_words : Str) : Prop :=
  ((!v_good) = true → False)
theorem e_ask {v_good : Bool} {v_words : Str} (h : s_ask v_good v_words) : fn_ask [D.bl v_good, D.str v_words] = .ok (eN (t_ask v_good v_words)) .ff .non := by
  refine runE (fb := fb_ask) (x := t_ask v_good v_words) ?_
  show JE (fb_ask [.fz (D.bl v_good), .fz (D.str v_words)]) _
  delta fb_ask t_ask
  delta s_ask at h
  exact sqIf (nt (tst (vf 0 rfl))) (fun hc => bdh (h hc) (fun h => h.elim)) (fun _ => sq rfl (⟨_, rfl⟩))
noncomputable def fb_ask_fraction : M Fl :=
  mSeq (mAsg (gT 2 (gsC (gN 2) (gsC (gN 3) gsN))) (mVar 0))
    (mSeq (mDrop (mFz (mCallN 2 none fn_ask (xV (mAndV (mChain dLe dLe (M.pure (.int 0)) (mVar 2) (M.pure (.int 1000))) (mAndV (mChain dLe dLe (M.pure (.int 1)) (mVar 3) (M.pure (.int 1000))) (mBin dEq (mFz (mCallN 2 none Std.fn_common (xV (mVar 2) (xV (mVar 3) xNil)))) (M.pure (.int 1))))) (xV (M.pure (.str "fractions in least terms")) xNil)))))
    (mSeq (mDrop (mFz (mCallN 2 none fn_ask (xV (mOrV (mBin dGt (mVar 2) (M.pure (.int 0))) (mNotV (mVar 1))) (xV (M.pure (.str "above nought")) xNil)))))
    mNx))
noncomputable def fn_ask_fraction : List D → Rf := runF none 4 fb_ask_fraction
noncomputable def t_ask_fraction (v_one : Rat) (v_above_nought : Bool) : Unit :=
  bd v_one (fun (z1 : Rat) => ())
def s_ask_fraction (v_one : Rat) (v_above_nought : Bool) : Prop :=
  bd v_one (fun (z1 : Rat) => ((((decide ((0 : Int) ≤ z1.num)) && (decide (z1.num ≤ (1000 : Int)))) = true → (((decide ((1 : Int) ≤ (z1.den : Int))) && (decide ((z1.den : Int) ≤ (1000 : Int)))) = true → (0 ≤ z1.num ∧ 0 ≤ (z1.den : Int)))) ∧ (s_ask ((((decide ((0 : Int) ≤ z1.num)) && (decide (z1.num ≤ (1000 : Int)))) && (((decide ((1 : Int) ≤ (z1.den : Int))) && (decide ((z1.den : Int) ≤ (1000 : Int)))) && (decide (((Nat.gcd z1.num.toNat ((z1.den : Int)).toNat : Nat) : Int) = (1 : Int)))))) (("fractions in least terms" : Str))) ∧ ((s_ask (((decide ((0 : Int) < z1.num)) || (!v_above_nought))) (("above nought" : Str))))))
theorem e_ask_fraction {v_one : Rat} {v_above_nought : Bool} (h : s_ask_fraction v_one v_above_nought) : fn_ask_fraction [fq v_one, D.bl v_above_nought] = .ok (eN (t_ask_fraction v_one v_above_nought)) .ff .non := by
  refine runE (fb := fb_ask_fraction) (x := t_ask_fraction v_one v_above_nought) ?_
  show JE (fb_ask_fraction [zQ v_one, .fz (D.bl v_above_nought), .un, .un]) _
  delta fb_ask_fraction t_ask_fraction
  delta s_ask_fraction at h
  exact sqB (ctx := fun (z1 : Rat) => [zQ v_one, .fz (D.bl v_above_nought), zI z1.num, .fz (D.int ((z1.den : Int)))]) (sAsg (vf 0 rfl) rfl) h (fun z1 h => sq (ρ1 := [zQ v_one, .fz (D.bl v_above_nought), zI z1.num, .fz (D.int ((z1.den : Int)))]) (sDrop (mfz (cN (x1 (anV (chn rfl (vf 2 rfl) rfl (fun hc2 => rfl) (fun _ => rfl)) (fun hc5 => anV (chn rfl (vf 3 rfl) rfl (fun hc3 => rfl) (fun _ => rfl)) (fun hc4 => b2 (mfz (cN (x1 (vf 2 rfl) (x1 (vf 3 rfl) x0)) rfl rfl (Std.e_common (a := z1.num) (b := (z1.den : Int)) ((h.1 hc5) hc4) :) rfl)) rfl dEq_i))) (x1 rfl x0)) rfl rfl (e_ask (v_good := (((decide ((0 : Int) ≤ z1.num)) && (decide (z1.num ≤ (1000 : Int)))) && (((decide ((1 : Int) ≤ (z1.den : Int))) && (decide ((z1.den : Int) ≤ (1000 : Int)))) && (decide (((Nat.gcd z1.num.toNat ((z1.den : Int)).toNat : Nat) : Int) = (1 : Int)))))) (v_words := ("fractions in least terms" : Str)) h.2.1 :) rfl))) (bdh h.2.2 (fun h => sq (ρ1 := [zQ v_one, .fz (D.bl v_above_nought), zI z1.num, .fz (D.int ((z1.den : Int)))]) (sDrop (mfz (cN (x1 (orV (b2 (vf 2 rfl) rfl rfl) (fun hc6 => ntV (vf 1 rfl))) (x1 rfl x0)) rfl rfl (e_ask (v_good := ((decide ((0 : Int) < z1.num)) || (!v_above_nought))) (v_words := ("above nought" : Str)) h :) rfl))) (⟨_, rfl⟩))))
noncomputable def fb_ask_line : M Fl :=
  mSeq (mAsg (gT 4 (gsC (gN 2) (gsC (gN 3) (gsC (gN 4) (gsC (gN 5) gsN))))) (mVar 0))
    (mSeq (mDrop (mFz (mCallN 2 none fn_ask (xV (mChain dLe dLe (M.pure (.int 1)) (mCall dLen (mCons (mVar 2) mNil)) (M.pure (.int 6))) (xV (M.pure (.str "one to six speeds")) xNil)))))
    (mSeq (mFor (mIter (mVar 2)) (gN 1) (mSeq (mDrop (mFz (mCallN 2 none fn_ask_fraction (xV (mVar 1) (xV (M.pure (.bl true)) xNil)))))
    (mSeq (mKill [1]) mNx)))
    (mSeq (mFor (mZip (mCons (mFz (mSl (mVar 2) (mPart none) (mPart (some (mUn dNeg (M.pure (.int 1))))))) (mCons (mFz (mSl (mVar 2) (mPart (some (M.pure (.int 1)))) (mPart none))) mNil))) (gT 2 (gsC (gN 1) (gsC (gN 6) gsN))) (mSeq (mDrop (mFz (mCallN 2 none fn_ask (xV (mNotV (mFz (mCallN 2 none Std.fn_is_less (xV (mVar 6) (xV (mVar 1) xNil))))) (xV (M.pure (.str "speeds never fall")) xNil)))))
    (mSeq (mKill [1, 6]) mNx)))
    (mSeq (mDrop (mFz (mCallN 2 none fn_ask_fraction (xV (mVar 3) (xV (M.pure (.bl false)) xNil)))))
    (mSeq (mDrop (mFz (mCallN 2 none fn_ask (xV (mChain dLe dLe (M.pure (.int 0)) (mVar 4) (M.pure (.int 9))) (xV (M.pure (.str "a room is 0 to 9")) xNil)))))
    (mSeq (mIf (mTest (mBin dEq (mVar 4) (M.pure (.int 0)))) (mSeq (mDrop (mFz (mCallN 2 none fn_ask (xV (mBin dEq (mVar 5) (M.pure (.str ""))) (xV (M.pure (.str "no rule without a room")) xNil)))))
    mNx) (mSeq (mDrop (mFz (mCallN 2 none fn_ask (xV (mBin (dIn false) (mVar 5) (M.pure (.tup [(.str "stay"), (.str "lose"), (.str "skip")]))) (xV (M.pure (.str "a rule is stay, lose or skip")) xNil)))))
    mNx))
    mNx))))))
noncomputable def fn_ask_line : List D → Rf := runF none 7 fb_ask_line
noncomputable def t_ask_line (v_line : Line) : Unit :=
  bd v_line (fun (z1 : Line) => ())
def s_ask_line (v_line : Line) : Prop :=
  bd v_line (fun (z1 : Line) => ((s_ask (((decide ((1 : Int) ≤ (z1.1.length : Int))) && (decide ((z1.1.length : Int) ≤ (6 : Int))))) (("one to six speeds" : Str))) ∧ (((sfl (fun (z3 : Unit) (xv4 : Rat) => ()) (fun (z3 : Unit) (xv4 : Rat) => (s_ask_fraction xv4 true)) z1.1 ()) ∧ (((sfl (fun (z5 : Unit) (xv6 : (Rat × Rat)) => ()) (fun (z5 : Unit) (xv6 : (Rat × Rat)) => ((Std.SQ xv6.2 xv6.1) ∧ (s_ask ((!(decide (xv6.2 < xv6.1)))) (("speeds never fall" : Str))))) (((cut z1.1 none (some ((-(1 : Int)))))).zip ((cut z1.1 (some ((1 : Int))) none))) ()) ∧ (((s_ask_fraction z1.2.1 false) ∧ (((s_ask (((decide ((0 : Int) ≤ z1.2.2.1)) && (decide (z1.2.2.1 ≤ (9 : Int))))) (("a room is 0 to 9" : Str))) ∧ ((((decide (z1.2.2.1 = (0 : Int))) = true → (s_ask ((decide (z1.2.2.2 = ("" : Str)))) (("no rule without a room" : Str)))) ∧ ((decide (z1.2.2.1 = (0 : Int))) = false → (s_ask ((decide (z1.2.2.2 ∈ [("stay" : Str), ("lose" : Str), ("skip" : Str)]))) (("a rule is stay, lose or skip" : Str))))))))))))))))
theorem e_ask_line {v_line : Line} (h : s_ask_line v_line) : fn_ask_line [eLine v_line] = .ok (eN (t_ask_line v_line)) .ff .non := by
  refine runE (fb := fb_ask_line) (x := t_ask_line v_line) ?_
  show JE (fb_ask_line [.fz (eLine v_line), .un, .un, .un, .un, .un, .un]) _
  delta fb_ask_line t_ask_line
  delta s_ask_line at h
  exact sqB (ctx := fun (z1 : Line) => [.fz (eLine v_line), .un, zL z1.1, zQ z1.2.1, zI z1.2.2.1, .fz (D.str z1.2.2.2), .un]) (sAsg (vf 0 rfl) rfl) h (fun z1 h => sq (ρ1 := [.fz (eLine v_line), .un, zL z1.1, zQ z1.2.1, zI z1.2.2.1, .fz (D.str z1.2.2.2), .un]) (sDrop (mfz (cN (x1 (chn rfl (c1 (a1 (vf 2 rfl) a0) (o_lenL (F := fq))) rfl (fun hc2 => rfl) (fun _ => rfl)) (x1 rfl x0)) rfl rfl (e_ask (v_good := ((decide ((1 : Int) ≤ (z1.1.length : Int))) && (decide ((z1.1.length : Int) ≤ (6 : Int))))) (v_words := ("one to six speeds" : Str)) h.1 :) rfl))) (bdh h.2 (fun h => sq (ρ1 := [.fz (eLine v_line), .un, zL z1.1, zQ z1.2.1, zI z1.2.2.1, .fz (D.str z1.2.2.2), .un]) (forN (F := fq) (ctx := fun (z3 : Unit) => [.fz (eLine v_line), .un, zL z1.1, zQ z1.2.1, zI z1.2.2.1, .fz (D.str z1.2.2.2), .un]) (i_L (F := fq) (vf 2 rfl)) h.1 (fun z3 xv4 h => ⟨_, rfl, sq (ρ1 := [.fz (eLine v_line), zQ xv4, zL z1.1, zQ z1.2.1, zI z1.2.2.1, .fz (D.str z1.2.2.2), .un]) (sDrop (mfz (cN (x1 (vf 1 rfl) (x1 rfl x0)) rfl rfl (e_ask_fraction (v_one := xv4) (v_above_nought := true) h :) rfl))) (sq (sKill (show _ = [.fz (eLine v_line), .un, zL z1.1, zQ z1.2.1, zI z1.2.2.1, .fz (D.str z1.2.2.2), .un] from rfl)) rfl)⟩)) (bdh h.2 (fun h => sq (ρ1 := [.fz (eLine v_line), .un, zL z1.1, zQ z1.2.1, zI z1.2.2.1, .fz (D.str z1.2.2.2), .un]) (forN (F := (eT2 fq fq)) (ctx := fun (z5 : Unit) => [.fz (eLine v_line), .un, zL z1.1, zQ z1.2.1, zI z1.2.2.1, .fz (D.str z1.2.2.2), .un]) (i_zip (F := fq) (G := fq) (a1 (mfz (slL (F := fq) (vf 2 rfl) pt0 (pt1 (u1 rfl rfl)))) (a1 (mfz (slL (F := fq) (vf 2 rfl) (pt1 rfl) pt0)) a0))) h.1 (fun z5 xv6 h => ⟨_, rfl, sq (ρ1 := [.fz (eLine v_line), zQ xv6.1, zL z1.1, zQ z1.2.1, zI z1.2.2.1, .fz (D.str z1.2.2.2), zQ xv6.2]) (sDrop (mfz (cN (x1 (ntV (mfz (cN (x1 (vf 6 rfl) (x1 (vf 1 rfl) x0)) rfl rfl (Std.e_is_less (p := xv6.2) (q := xv6.1) h.1 :) rfl))) (x1 rfl x0)) rfl rfl (e_ask (v_good := (!(decide (xv6.2 < xv6.1)))) (v_words := ("speeds never fall" : Str)) h.2 :) rfl))) (sq (sKill (show _ = [.fz (eLine v_line), .un, zL z1.1, zQ z1.2.1, zI z1.2.2.1, .fz (D.str z1.2.2.2), .un] from rfl)) rfl)⟩)) (bdh h.2 (fun h => sq (ρ1 := [.fz (eLine v_line), .un, zL z1.1, zQ z1.2.1, zI z1.2.2.1, .fz (D.str z1.2.2.2), .un]) (sDrop (mfz (cN (x1 (vf 3 rfl) (x1 rfl x0)) rfl rfl (e_ask_fraction (v_one := z1.2.1) (v_above_nought := false) h.1 :) rfl))) (bdh h.2 (fun h => sq (ρ1 := [.fz (eLine v_line), .un, zL z1.1, zQ z1.2.1, zI z1.2.2.1, .fz (D.str z1.2.2.2), .un]) (sDrop (mfz (cN (x1 (chn rfl (vf 4 rfl) rfl (fun hc7 => rfl) (fun _ => rfl)) (x1 rfl x0)) rfl rfl (e_ask (v_good := ((decide ((0 : Int) ≤ z1.2.2.1)) && (decide (z1.2.2.1 ≤ (9 : Int))))) (v_words := ("a room is 0 to 9" : Str)) h.1 :) rfl))) (bdh h.2 (fun h => sq (ρ1 := [.fz (eLine v_line), .un, zL z1.1, zQ z1.2.1, zI z1.2.2.1, .fz (D.str z1.2.2.2), .un]) (ifJ (ctx := fun (z8 : Unit) => [.fz (eLine v_line), .un, zL z1.1, zQ z1.2.1, zI z1.2.2.1, .fz (D.str z1.2.2.2), .un]) (v := ()) (w := ()) (tst (b2 (vf 4 rfl) rfl dEq_i)) (fun hc => (bdh (h.1 hc) (fun h => jnE (ctx := fun (z8 : Unit) => [.fz (eLine v_line), .un, zL z1.1, zQ z1.2.1, zI z1.2.2.1, .fz (D.str z1.2.2.2), .un]) (s := ()) (sq (ρ1 := [.fz (eLine v_line), .un, zL z1.1, zQ z1.2.1, zI z1.2.2.1, .fz (D.str z1.2.2.2), .un]) (sDrop (mfz (cN (x1 (b2 (vf 5 rfl) rfl dEq_s) (x1 rfl x0)) rfl rfl (e_ask (v_good := (decide (z1.2.2.2 = ("" : Str)))) (v_words := ("no rule without a room" : Str)) h :) rfl))) rfl)))) (fun hc => (bdh (h.2 hc) (fun h => jnE (ctx := fun (z8 : Unit) => [.fz (eLine v_line), .un, zL z1.1, zQ z1.2.1, zI z1.2.2.1, .fz (D.str z1.2.2.2), .un]) (s := ()) (sq (ρ1 := [.fz (eLine v_line), .un, zL z1.1, zQ z1.2.1, zI z1.2.2.1, .fz (D.str z1.2.2.2), .un]) (sDrop (mfz (cN (x1 (b2 (vf 5 rfl) rfl (o_inSV (x := z1.2.2.2) (ys := [("stay" : Str), ("lose" : Str), ("skip" : Str)]))) (x1 rfl x0)) rfl rfl (e_ask (v_good := (decide (z1.2.2.2 ∈ [("stay" : Str), ("lose" : Str), ("skip" : Str)]))) (v_words := ("a rule is stay, lose or skip" : Str)) h :) rfl))) rfl))))) (⟨_, rfl⟩))))))))))))
noncomputable def fb_ask_stand : M Fl :=
  mSeq (mAsg (gT 3 (gsC (gN 4) (gsC (gN 5) (gsC (gN 6) gsN)))) (mVar 0))
    (mSeq (mDrop (mFz (mCallN 2 none fn_ask (xV (mChain dLe dLt (M.pure (.int 0)) (mVar 4) (mVar 1)) (xV (M.pure (.str "a line that's there")) xNil)))))
    (mSeq (mDrop (mFz (mCallN 2 none fn_ask_fraction (xV (mVar 5) (xV (M.pure (.bl true)) xNil)))))
    (mSeq (mSet 3 (mOf (mUn dNeg (M.pure (.int 1)))))
    (mSeq (mFor (mIter (mVar 6)) (gT 2 (gsC (gN 7) (gsC (gN 8) gsN))) (mSeq (mDrop (mFz (mCallN 2 none fn_ask (xV (mChain dLt dLt (mVar 3) (mVar 7) (mVar 2)) (xV (M.pure (.str "ways to stands, rising")) xNil)))))
    (mSeq (mDrop (mFz (mCallN 2 none fn_ask_fraction (xV (mVar 8) (xV (M.pure (.bl true)) xNil)))))
    (mSeq (mSet 3 (mOf (mVar 7)))
    (mSeq (mKill [7, 8]) mNx)))))
    (mSeq (mDrop (mFz (mCallN 2 none fn_ask (xV (mNotV (mFz (mCallN 2 none Std.fn_is_less (xV (M.pure (.tup [(.int 1), (.int 1)])) (xV (mFz (mCallN 1 none Std.fn_total (xV (mFz (mLc [7, 8] (mIter (mVar 6)) (gT 2 (gsC (gN 7) (gsC (gN 8) gsN))) (M.pure true) (mVar 8))) xNil))) xNil))))) (xV (M.pure (.str "shares come to one at most")) xNil)))))
    mNx)))))
noncomputable def fn_ask_stand : List D → Rf := runF none 9 fb_ask_stand
noncomputable def t_ask_stand (v_stand : Stand) (v_lines : Int) (v_many : Int) : Unit :=
  bd v_stand (fun (z1 : Stand) => bd (-(1 : Int)) (fun (v_last_3 : Int) => bd (z1.2.2.foldl (fun (z4 : Int) (xv5 : Way) => bd xv5.1 (fun (v_last_7 : Int) => v_last_7)) v_last_3) (fun (z8 : Int) => ())))
def s_ask_stand (v_stand : Stand) (v_lines : Int) (v_many : Int) : Prop :=
  bd v_stand (fun (z1 : Stand) => ((s_ask (((decide ((0 : Int) ≤ z1.1)) && (decide (z1.1 < v_lines)))) (("a line that's there" : Str))) ∧ (((s_ask_fraction z1.2.1 true) ∧ (bd (-(1 : Int)) (fun (v_last_3 : Int) => ((sfl (fun (z4 : Int) (xv5 : Way) => bd xv5.1 (fun (v_last_7 : Int) => v_last_7)) (fun (z4 : Int) (xv5 : Way) => ((s_ask (((decide (z4 < xv5.1)) && (decide (xv5.1 < v_many)))) (("ways to stands, rising" : Str))) ∧ ((s_ask_fraction xv5.2 true)))) z1.2.2 v_last_3) ∧ (bd (z1.2.2.foldl (fun (z4 : Int) (xv5 : Way) => bd xv5.1 (fun (v_last_7 : Int) => v_last_7)) v_last_3) (fun (z8 : Int) => ((z1.2.2.length ≤ 10000) ∧ (Std.tsz ((z1.2.2.map (fun (xv9 : Way) => xv9.2))) ≤ 80000000) ∧ (Std.SQ ((1 : Rat)) ((Std.sumQ ((z1.2.2.map (fun (xv9 : Way) => xv9.2)))))) ∧ (s_ask ((!(decide ((1 : Rat) < (Std.sumQ ((z1.2.2.map (fun (xv9 : Way) => xv9.2)))))))) (("shares come to one at most" : Str)))))))))))))
theorem e_ask_stand {v_stand : Stand} {v_lines : Int} {v_many : Int} (h : s_ask_stand v_stand v_lines v_many) : fn_ask_stand [eStand v_stand, D.int v_lines, D.int v_many] = .ok (eN (t_ask_stand v_stand v_lines v_many)) .ff .non := by
  refine runE (fb := fb_ask_stand) (x := t_ask_stand v_stand v_lines v_many) ?_
  show JE (fb_ask_stand [.fz (eStand v_stand), zI v_lines, zI v_many, .un, .un, .un, .un, .un, .un]) _
  delta fb_ask_stand t_ask_stand
  delta s_ask_stand at h
  exact sqB (ctx := fun (z1 : Stand) => [.fz (eStand v_stand), zI v_lines, zI v_many, .un, zI z1.1, zQ z1.2.1, .fz ((eL eWay) z1.2.2), .un, .un]) (sAsg (vf 0 rfl) rfl) h (fun z1 h => sq (ρ1 := [.fz (eStand v_stand), zI v_lines, zI v_many, .un, zI z1.1, zQ z1.2.1, .fz ((eL eWay) z1.2.2), .un, .un]) (sDrop (mfz (cN (x1 (chn rfl (vf 4 rfl) rfl (fun hc2 => vf 1 rfl) (fun _ => rfl)) (x1 rfl x0)) rfl rfl (e_ask (v_good := ((decide ((0 : Int) ≤ z1.1)) && (decide (z1.1 < v_lines)))) (v_words := ("a line that's there" : Str)) h.1 :) rfl))) (bdh h.2 (fun h => sq (ρ1 := [.fz (eStand v_stand), zI v_lines, zI v_many, .un, zI z1.1, zQ z1.2.1, .fz ((eL eWay) z1.2.2), .un, .un]) (sDrop (mfz (cN (x1 (vf 5 rfl) (x1 rfl x0)) rfl rfl (e_ask_fraction (v_one := z1.2.1) (v_above_nought := true) h.1 :) rfl))) (bdh h.2 (fun h => sqB (ctx := fun (v_last_3 : Int) => [.fz (eStand v_stand), zI v_lines, zI v_many, zI v_last_3, zI z1.1, zQ z1.2.1, .fz ((eL eWay) z1.2.2), .un, .un]) (sSet (mof (u1 rfl rfl)) rfl) h (fun v_last_3 h => sqB (ctx := fun (z8 : Int) => [.fz (eStand v_stand), zI v_lines, zI v_many, zI z8, zI z1.1, zQ z1.2.1, .fz ((eL eWay) z1.2.2), .un, .un]) (forN (F := eWay) (ctx := fun (z4 : Int) => [.fz (eStand v_stand), zI v_lines, zI v_many, zI z4, zI z1.1, zQ z1.2.1, .fz ((eL eWay) z1.2.2), .un, .un]) (i_L (F := eWay) (vf 6 rfl)) h.1 (fun z4 xv5 h => ⟨_, rfl, sq (ρ1 := [.fz (eStand v_stand), zI v_lines, zI v_many, zI z4, zI z1.1, zQ z1.2.1, .fz ((eL eWay) z1.2.2), zI xv5.1, zQ xv5.2]) (sDrop (mfz (cN (x1 (chn (vf 3 rfl) (vf 7 rfl) rfl (fun hc6 => vf 2 rfl) (fun _ => rfl)) (x1 rfl x0)) rfl rfl (e_ask (v_good := ((decide (z4 < xv5.1)) && (decide (xv5.1 < v_many)))) (v_words := ("ways to stands, rising" : Str)) h.1 :) rfl))) (bdh h.2 (fun h => sq (ρ1 := [.fz (eStand v_stand), zI v_lines, zI v_many, zI z4, zI z1.1, zQ z1.2.1, .fz ((eL eWay) z1.2.2), zI xv5.1, zQ xv5.2]) (sDrop (mfz (cN (x1 (vf 8 rfl) (x1 rfl x0)) rfl rfl (e_ask_fraction (v_one := xv5.2) (v_above_nought := true) h :) rfl))) (sqB (ctx := fun (v_last_7 : Int) => [.fz (eStand v_stand), zI v_lines, zI v_many, zI v_last_7, zI z1.1, zQ z1.2.1, .fz ((eL eWay) z1.2.2), zI xv5.1, zQ xv5.2]) (S := fun _ => True) (sSet (mof (vf 7 rfl)) rfl) trivial (fun v_last_7 _ => sq (sKill (show _ = [.fz (eStand v_stand), zI v_lines, zI v_many, zI v_last_7, zI z1.1, zQ z1.2.1, .fz ((eL eWay) z1.2.2), .un, .un] from rfl)) rfl))))⟩)) h.2 (fun z8 h => sq (ρ1 := [.fz (eStand v_stand), zI v_lines, zI v_many, zI z8, zI z1.1, zQ z1.2.1, .fz ((eL eWay) z1.2.2), .un, .un]) (sDrop (mfz (cN (x1 (ntV (mfz (cN (x1 rfl (x1 (mfz (cN (x1 (mfz (lcM (F := eWay) (G := fq) (φ := fun (xv9 : Way) => xv9.2) (ρ1 := [.fz (eStand v_stand), zI v_lines, zI v_many, zI z8, zI z1.1, zQ z1.2.1, .fz ((eL eWay) z1.2.2), .un, .un]) (i_L (F := eWay) (vf 6 rfl)) rfl (fun xv9 hx10 => ⟨_, rfl, rfl, _, vf 8 rfl, rfl⟩) h.1 rfl)) x0) rfl rfl (Std.e_total (xs := (z1.2.2.map (fun (xv9 : Way) => xv9.2))) h.2.1 :) rfl)) x0)) rfl rfl (Std.e_is_less (p := (1 : Rat)) (q := (Std.sumQ ((z1.2.2.map (fun (xv9 : Way) => xv9.2))))) h.2.2.1 :) rfl))) (x1 rfl x0)) rfl rfl (e_ask (v_good := (!(decide ((1 : Rat) < (Std.sumQ ((z1.2.2.map (fun (xv9 : Way) => xv9.2)))))))) (v_words := ("shares come to one at most" : Str)) h.2.2.2 :) rfl))) (⟨_, rfl⟩))))))))
noncomputable def fb_ask_rates : M Fl :=
  mSeq (mFor (mIter (mVar 1)) (gN 2) (mSeq (mDrop (mFz (mCallN 2 none fn_ask_fraction (xV (mVar 2) (xV (M.pure (.bl false)) xNil)))))
    (mSeq (mKill [2]) mNx)))
    (mSeq (mDrop (mFz (mCallN 2 none fn_ask (xV (mBin dNe (mFz (mLc [2] (mIter (mVar 1)) (gN 2) (mTest (mBin dNe (mVar 2) (M.pure (.tup [(.int 0), (.int 1)])))) (mVar 2))) (mFz (mLst mNil))) (xV (M.pure (.str "somebody comes")) xNil)))))
    (mSeq (mSet 3 (mLc [4] (mIter (mVar 0)) (gN 4) (M.pure true) (mBin dIx (mVar 4) (M.pure (.int 2)))))
    (mSeq (mFrz 3)
    (mSeq (mIf (mTest (mBin dEq (mCall dMaxL (mCons (mVar 3) mNil)) (M.pure (.int 0)))) (mSeq (mDrop (mFz (mCallN 2 none fn_ask (xV (mBin dEq (mFz (mLc [4] (mIter (mVar 0)) (gN 4) (mTest (mBin dNe (mBin dIx (mVar 4) (M.pure (.int 1))) (M.pure (.tup [(.int 0), (.int 1)])))) (mVar 4))) (mFz (mLst mNil))) (xV (M.pure (.str "hands that are no more behind the last speed")) xNil)))))
    mNx) (mSeq (mDrop (mFz (mCallN 2 none fn_ask (xV (mBin dGt (mCall dMinL (mCons (mVar 3) mNil)) (M.pure (.int 0))) (xV (M.pure (.str "each line has a room, or none")) xNil)))))
    mNx))
    mNx))))
noncomputable def fn_ask_rates : List D → Rf := runF none 5 fb_ask_rates
noncomputable def t_ask_rates (v_lines : (List Line)) (v_rates : (List Rat)) : Unit :=
  bd (v_lines.map (fun (xv6 : Line) => xv6.2.2.1)) (fun (v_rooms_9 : (List Int)) => ())
def s_ask_rates (v_lines : (List Line)) (v_rates : (List Rat)) : Prop :=
  ((sfl (fun (z1 : Unit) (xv2 : Rat) => ()) (fun (z1 : Unit) (xv2 : Rat) => (s_ask_fraction xv2 false)) v_rates ()) ∧ (((v_rates.length ≤ 10000) ∧ (s_ask ((!decide (((v_rates.filter (fun (xv3 : Rat) => (!decide (xv3 = (0 : Rat))))).map (fun (xv3 : Rat) => xv3)) = ([] : List Rat)))) (("somebody comes" : Str))) ∧ (((v_lines.length ≤ 10000) ∧ (bd (v_lines.map (fun (xv6 : Line) => xv6.2.2.1)) (fun (v_rooms_9 : (List Int)) => ((v_rooms_9 ≠ []) ∧ ((decide ((maxL v_rooms_9) = (0 : Int))) = true → ((v_lines.length ≤ 10000) ∧ (OkE (eL eLine) (((v_lines.filter (fun (xv13 : Line) => (!decide (xv13.2.1 = (0 : Rat))))).map (fun (xv13 : Line) => xv13)))) ∧ (OkE (eL eLine) (([] : List Line))) ∧ (s_ask ((decide (((v_lines.filter (fun (xv13 : Line) => (!decide (xv13.2.1 = (0 : Rat))))).map (fun (xv13 : Line) => xv13)) = ([] : List Line)))) (("hands that are no more behind the last speed" : Str))))) ∧ ((decide ((maxL v_rooms_9) = (0 : Int))) = false → ((v_rooms_9 ≠ []) ∧ (s_ask ((decide ((0 : Int) < (minL v_rooms_9)))) (("each line has a room, or none" : Str)))))))))))))
theorem e_ask_rates {v_lines : (List Line)} {v_rates : (List Rat)} (h : s_ask_rates v_lines v_rates) : fn_ask_rates [(eL eLine) v_lines, (eL fq) v_rates] = .ok (eN (t_ask_rates v_lines v_rates)) .ff .non := by
  refine runE (fb := fb_ask_rates) (x := t_ask_rates v_lines v_rates) ?_
  show JE (fb_ask_rates [.fz ((eL eLine) v_lines), zL v_rates, .un, .un, .un]) _
  delta fb_ask_rates t_ask_rates
  delta s_ask_rates at h
  exact sq (ρ1 := [.fz ((eL eLine) v_lines), zL v_rates, .un, .un, .un]) (forN (F := fq) (ctx := fun (z1 : Unit) => [.fz ((eL eLine) v_lines), zL v_rates, .un, .un, .un]) (i_L (F := fq) (vf 1 rfl)) h.1 (fun z1 xv2 h => ⟨_, rfl, sq (ρ1 := [.fz ((eL eLine) v_lines), zL v_rates, zQ xv2, .un, .un]) (sDrop (mfz (cN (x1 (vf 2 rfl) (x1 rfl x0)) rfl rfl (e_ask_fraction (v_one := xv2) (v_above_nought := false) h :) rfl))) (sq (sKill (show _ = [.fz ((eL eLine) v_lines), zL v_rates, .un, .un, .un] from rfl)) rfl)⟩)) (bdh h.2 (fun h => sq (ρ1 := [.fz ((eL eLine) v_lines), zL v_rates, .un, .un, .un]) (sDrop (mfz (cN (x1 (b2 (mfz (lcP (F := fq) (G := fq) (p := fun (xv3 : Rat) => (!decide (xv3 = (0 : Rat)))) (φ := fun (xv3 : Rat) => xv3) (ρ1 := [.fz ((eL eLine) v_lines), zL v_rates, .un, .un, .un]) (i_L (F := fq) (vf 1 rfl)) rfl (fun xv3 hx4 => ⟨_, rfl, tst (b2 (vf 2 rfl) rfl ((o_ne (F := fq) (x := xv3) (y := (0 : Rat)) gQ))), rfl, fun hc5 => ⟨_, vf 2 rfl, rfl⟩⟩) h.1 rfl)) (mfz (mlst a0)) ((o_ne (F := (eL fq)) (x := ((v_rates.filter (fun (xv3 : Rat) => (!decide (xv3 = (0 : Rat))))).map (fun (xv3 : Rat) => xv3))) (y := ([] : List Rat)) (gL gQ)))) (x1 rfl x0)) rfl rfl (e_ask (v_good := (!decide (((v_rates.filter (fun (xv3 : Rat) => (!decide (xv3 = (0 : Rat))))).map (fun (xv3 : Rat) => xv3)) = ([] : List Rat)))) (v_words := ("somebody comes" : Str)) h.2.1 :) rfl))) (bdh h.2.2 (fun h => sqB (ctx := fun (v_rooms_9 : (List Int)) => [.fz ((eL eLine) v_lines), zL v_rates, .un, .ow ((eL D.int) v_rooms_9), .un]) (sSetO (lcM (F := eLine) (G := D.int) (φ := fun (xv6 : Line) => xv6.2.2.1) (ρ1 := [.fz ((eL eLine) v_lines), zL v_rates, .un, .un, .un]) (i_L (F := eLine) (vf 0 rfl)) rfl (fun xv6 hx7 => ⟨_, rfl, rfl, _, b2 (vf 4 rfl) rfl rfl, rfl⟩) h.1 rfl) rfl) h.2 (fun v_rooms_9 h => sq (sFrz (i := 3) rfl (show _ = [.fz ((eL eLine) v_lines), zL v_rates, .un, zJ v_rooms_9, .un] from rfl)) (sq (ρ1 := [.fz ((eL eLine) v_lines), zL v_rates, .un, zJ v_rooms_9, .un]) (ifJ (ctx := fun (z16 : Unit) => [.fz ((eL eLine) v_lines), zL v_rates, .un, zJ v_rooms_9, .un]) (v := ()) (w := ()) (tst (b2 (c1 (a1 (vf 3 rfl) a0) (o_maxL h.1)) rfl dEq_i)) (fun hc => (bdh (h.2.1 hc) (fun h => jnE (ctx := fun (z16 : Unit) => [.fz ((eL eLine) v_lines), zL v_rates, .un, zJ v_rooms_9, .un]) (s := ()) (sq (ρ1 := [.fz ((eL eLine) v_lines), zL v_rates, .un, zJ v_rooms_9, .un]) (sDrop (mfz (cN (x1 (b2 (mfz (lcP (F := eLine) (G := eLine) (p := fun (xv13 : Line) => (!decide (xv13.2.1 = (0 : Rat)))) (φ := fun (xv13 : Line) => xv13) (ρ1 := [.fz ((eL eLine) v_lines), zL v_rates, .un, zJ v_rooms_9, .un]) (i_L (F := eLine) (vf 0 rfl)) rfl (fun xv13 hx14 => ⟨_, rfl, tst (b2 (b2 (vf 4 rfl) rfl rfl) rfl ((o_ne (F := fq) (x := xv13.2.1) (y := (0 : Rat)) gQ))), rfl, fun hc15 => ⟨_, vf 4 rfl, rfl⟩⟩) h.1 rfl)) (mfz (mlst a0)) ((o_eqx (F := (eL eLine)) (x := ((v_lines.filter (fun (xv13 : Line) => (!decide (xv13.2.1 = (0 : Rat))))).map (fun (xv13 : Line) => xv13))) (y := ([] : List Line)) (xL xLine) h.2.1 h.2.2.1))) (x1 rfl x0)) rfl rfl (e_ask (v_good := (decide (((v_lines.filter (fun (xv13 : Line) => (!decide (xv13.2.1 = (0 : Rat))))).map (fun (xv13 : Line) => xv13)) = ([] : List Line)))) (v_words := ("hands that are no more behind the last speed" : Str)) h.2.2.2 :) rfl))) rfl)))) (fun hc => (bdh (h.2.2 hc) (fun h => jnE (ctx := fun (z16 : Unit) => [.fz ((eL eLine) v_lines), zL v_rates, .un, zJ v_rooms_9, .un]) (s := ()) (sq (ρ1 := [.fz ((eL eLine) v_lines), zL v_rates, .un, zJ v_rooms_9, .un]) (sDrop (mfz (cN (x1 (b2 (c1 (a1 (vf 3 rfl) a0) (o_minL h.1)) rfl rfl) (x1 rfl x0)) rfl rfl (e_ask (v_good := (decide ((0 : Int) < (minL v_rooms_9)))) (v_words := ("each line has a room, or none" : Str)) h.2 :) rfl))) rfl))))) (⟨_, rfl⟩)))))))
noncomputable def fb_ask_counts : M Fl :=
  mSeq (mDrop (mFz (mCallN 2 none fn_ask (xV (mAndV (mBin dGe (mCall dMinL (mCons (mVar 2) mNil)) (M.pure (.int 0))) (mChain dLe dLe (M.pure (.int 1)) (mCall dSum (mCons (mVar 2) mNil)) (M.pure (.int 8)))) (xV (M.pure (.str "one to eight comers")) xNil)))))
    (mSeq (mDrop (mFz (mCallN 2 none fn_ask (xV (mBin dEq (mFz (mLc [5] (mIter (mVar 0)) (gN 5) (mTest (mBin dEq (mBin dIx (mVar 5) (M.pure (.int 3))) (M.pure (.str "lose")))) (mVar 5))) (mFz (mLst mNil))) (xV (M.pure (.str "nobody is lost")) xNil)))))
    (mSeq (mFor (mIter (mVar 1)) (gN 3) (mSeq (mDrop (mFz (mCallN 2 none fn_ask (xV (mBin dEq (mFz (mCallN 1 none Std.fn_total (xV (mFz (mLc [8, 9] (mIter (mBin dIx (mVar 3) (M.pure (.int 2)))) (gT 2 (gsC (gN 8) (gsC (gN 9) gsN))) (M.pure true) (mVar 9))) xNil))) (M.pure (.tup [(.int 1), (.int 1)]))) (xV (M.pure (.str "nobody leaves")) xNil)))))
    (mSeq (mKill [3]) mNx)))
    (mSeq (mFor (mEnum (mCons (mVar 0) mNil)) (gT 2 (gsC (gN 4) (gsC (gN 5) gsN))) (mSeq (mSet 6 (mOf (mCall dSum (mCons (mFz (mLc [7, 3] (mZip (mCons (mVar 2) (mCons (mVar 1) mNil))) (gT 2 (gsC (gN 7) (gsC (gN 3) gsN))) (mTest (mBin dEq (mBin dIx (mVar 3) (M.pure (.int 0))) (mVar 4))) (mVar 7))) mNil))))
    (mSeq (mDrop (mFz (mCallN 2 none fn_ask (xV (mOrV (mBin dEq (mBin dIx (mVar 5) (M.pure (.int 2))) (M.pure (.int 0))) (mBin dLe (mVar 6) (mBin dIx (mVar 5) (M.pure (.int 2))))) (xV (M.pure (.str "no more begin than there is room")) xNil)))))
    (mSeq (mKill [4, 5, 6]) mNx))))
    mNx)))
noncomputable def fn_ask_counts : List D → Rf := runF none 10 fb_ask_counts
noncomputable def t_ask_counts (v_lines : (List Line)) (v_stands : (List Stand)) (v_counts : (List Int)) : Unit :=
  ()
def s_ask_counts (v_lines : (List Line)) (v_stands : (List Stand)) (v_counts : (List Int)) : Prop :=
  ((v_counts ≠ []) ∧ (s_ask (((decide ((0 : Int) ≤ (minL v_counts))) && ((decide ((1 : Int) ≤ v_counts.sum)) && (decide (v_counts.sum ≤ (8 : Int)))))) (("one to eight comers" : Str))) ∧ (((v_lines.length ≤ 10000) ∧ (OkE (eL eLine) (((v_lines.filter (fun (xv3 : Line) => (decide (xv3.2.2.2 = ("lose" : Str))))).map (fun (xv3 : Line) => xv3)))) ∧ (OkE (eL eLine) (([] : List Line))) ∧ (s_ask ((decide (((v_lines.filter (fun (xv3 : Line) => (decide (xv3.2.2.2 = ("lose" : Str))))).map (fun (xv3 : Line) => xv3)) = ([] : List Line)))) (("nobody is lost" : Str))) ∧ (((sfl (fun (z6 : Unit) (xv7 : Stand) => ()) (fun (z6 : Unit) (xv7 : Stand) => ((xv7.2.2.length ≤ 10000) ∧ (Std.tsz ((xv7.2.2.map (fun (xv8 : Way) => xv8.2))) ≤ 80000000) ∧ (s_ask ((decide ((Std.sumQ ((xv7.2.2.map (fun (xv8 : Way) => xv8.2)))) = (1 : Rat)))) (("nobody leaves" : Str))))) v_stands ()) ∧ ((sfl (fun (z11 : Unit) (xv12 : (Int × Line)) => bd (((((v_counts.zip v_stands).filter (fun (xv13 : (Int × Stand)) => (decide (xv13.2.1 = xv12.1)))).map (fun (xv13 : (Int × Stand)) => xv13.1))).sum) (fun (v_many_16 : Int) => ())) (fun (z11 : Unit) (xv12 : (Int × Line)) => ((((v_counts.zip v_stands)).length ≤ 10000) ∧ (bd (((((v_counts.zip v_stands).filter (fun (xv13 : (Int × Stand)) => (decide (xv13.2.1 = xv12.1)))).map (fun (xv13 : (Int × Stand)) => xv13.1))).sum) (fun (v_many_16 : Int) => (s_ask (((decide (xv12.2.2.2.1 = (0 : Int))) || (decide (v_many_16 ≤ xv12.2.2.2.1)))) (("no more begin than there is room" : Str))))))) (enumI v_lines) ())))))))
theorem e_ask_counts {v_lines : (List Line)} {v_stands : (List Stand)} {v_counts : (List Int)} (h : s_ask_counts v_lines v_stands v_counts) : fn_ask_counts [(eL eLine) v_lines, (eL eStand) v_stands, (eL D.int) v_counts] = .ok (eN (t_ask_counts v_lines v_stands v_counts)) .ff .non := by
  refine runE (fb := fb_ask_counts) (x := t_ask_counts v_lines v_stands v_counts) ?_
  show JE (fb_ask_counts [.fz ((eL eLine) v_lines), .fz ((eL eStand) v_stands), zJ v_counts, .un, .un, .un, .un, .un, .un, .un]) _
  delta fb_ask_counts t_ask_counts
  delta s_ask_counts at h
  exact sq (ρ1 := [.fz ((eL eLine) v_lines), .fz ((eL eStand) v_stands), zJ v_counts, .un, .un, .un, .un, .un, .un, .un]) (sDrop (mfz (cN (x1 (anV (b2 (c1 (a1 (vf 2 rfl) a0) (o_minL h.1)) rfl rfl) (fun hc2 => chn rfl (c1 (a1 (vf 2 rfl) a0) o_sum) rfl (fun hc1 => rfl) (fun _ => rfl))) (x1 rfl x0)) rfl rfl (e_ask (v_good := ((decide ((0 : Int) ≤ (minL v_counts))) && ((decide ((1 : Int) ≤ v_counts.sum)) && (decide (v_counts.sum ≤ (8 : Int)))))) (v_words := ("one to eight comers" : Str)) h.2.1 :) rfl))) (bdh h.2.2 (fun h => sq (ρ1 := [.fz ((eL eLine) v_lines), .fz ((eL eStand) v_stands), zJ v_counts, .un, .un, .un, .un, .un, .un, .un]) (sDrop (mfz (cN (x1 (b2 (mfz (lcP (F := eLine) (G := eLine) (p := fun (xv3 : Line) => (decide (xv3.2.2.2 = ("lose" : Str)))) (φ := fun (xv3 : Line) => xv3) (ρ1 := [.fz ((eL eLine) v_lines), .fz ((eL eStand) v_stands), zJ v_counts, .un, .un, .un, .un, .un, .un, .un]) (i_L (F := eLine) (vf 0 rfl)) rfl (fun xv3 hx4 => ⟨_, rfl, tst (b2 (b2 (vf 5 rfl) rfl rfl) rfl dEq_s), rfl, fun hc5 => ⟨_, vf 5 rfl, rfl⟩⟩) h.1 rfl)) (mfz (mlst a0)) ((o_eqx (F := (eL eLine)) (x := ((v_lines.filter (fun (xv3 : Line) => (decide (xv3.2.2.2 = ("lose" : Str))))).map (fun (xv3 : Line) => xv3))) (y := ([] : List Line)) (xL xLine) h.2.1 h.2.2.1))) (x1 rfl x0)) rfl rfl (e_ask (v_good := (decide (((v_lines.filter (fun (xv3 : Line) => (decide (xv3.2.2.2 = ("lose" : Str))))).map (fun (xv3 : Line) => xv3)) = ([] : List Line)))) (v_words := ("nobody is lost" : Str)) h.2.2.2.1 :) rfl))) (bdh h.2.2.2.2 (fun h => sq (ρ1 := [.fz ((eL eLine) v_lines), .fz ((eL eStand) v_stands), zJ v_counts, .un, .un, .un, .un, .un, .un, .un]) (forN (F := eStand) (ctx := fun (z6 : Unit) => [.fz ((eL eLine) v_lines), .fz ((eL eStand) v_stands), zJ v_counts, .un, .un, .un, .un, .un, .un, .un]) (i_L (F := eStand) (vf 1 rfl)) h.1 (fun z6 xv7 h => ⟨_, rfl, sq (ρ1 := [.fz ((eL eLine) v_lines), .fz ((eL eStand) v_stands), zJ v_counts, .fz (eStand xv7), .un, .un, .un, .un, .un, .un]) (sDrop (mfz (cN (x1 (b2 (mfz (cN (x1 (mfz (lcM (F := eWay) (G := fq) (φ := fun (xv8 : Way) => xv8.2) (ρ1 := [.fz ((eL eLine) v_lines), .fz ((eL eStand) v_stands), zJ v_counts, .fz (eStand xv7), .un, .un, .un, .un, .un, .un]) (i_L (F := eWay) (b2 (vf 3 rfl) rfl rfl)) rfl (fun xv8 hx9 => ⟨_, rfl, rfl, _, vf 9 rfl, rfl⟩) h.1 rfl)) x0) rfl rfl (Std.e_total (xs := (xv7.2.2.map (fun (xv8 : Way) => xv8.2))) h.2.1 :) rfl)) rfl ((o_eq (F := fq) (x := (Std.sumQ ((xv7.2.2.map (fun (xv8 : Way) => xv8.2))))) (y := (1 : Rat)) gQ))) (x1 rfl x0)) rfl rfl (e_ask (v_good := (decide ((Std.sumQ ((xv7.2.2.map (fun (xv8 : Way) => xv8.2)))) = (1 : Rat)))) (v_words := ("nobody leaves" : Str)) h.2.2 :) rfl))) (sq (sKill (show _ = [.fz ((eL eLine) v_lines), .fz ((eL eStand) v_stands), zJ v_counts, .un, .un, .un, .un, .un, .un, .un] from rfl)) rfl)⟩)) (bdh h.2 (fun h => sq (ρ1 := [.fz ((eL eLine) v_lines), .fz ((eL eStand) v_stands), zJ v_counts, .un, .un, .un, .un, .un, .un, .un]) (forN (F := (eT2 D.int eLine)) (ctx := fun (z11 : Unit) => [.fz ((eL eLine) v_lines), .fz ((eL eStand) v_stands), zJ v_counts, .un, .un, .un, .un, .un, .un, .un]) (i_enum (F := eLine) (a1 (vf 0 rfl) a0)) h (fun z11 xv12 h => ⟨_, rfl, sqB (ctx := fun (v_many_16 : Int) => [.fz ((eL eLine) v_lines), .fz ((eL eStand) v_stands), zJ v_counts, .un, zI xv12.1, .fz (eLine xv12.2), zI v_many_16, .un, .un, .un]) (sSet (mof (c1 (a1 (mfz (lcP (F := (eT2 D.int eStand)) (G := D.int) (p := fun (xv13 : (Int × Stand)) => (decide (xv13.2.1 = xv12.1))) (φ := fun (xv13 : (Int × Stand)) => xv13.1) (ρ1 := [.fz ((eL eLine) v_lines), .fz ((eL eStand) v_stands), zJ v_counts, .un, zI xv12.1, .fz (eLine xv12.2), .un, .un, .un, .un]) (i_zip (F := D.int) (G := eStand) (a1 (vf 2 rfl) (a1 (vf 1 rfl) a0))) rfl (fun xv13 hx14 => ⟨_, rfl, tst (b2 (b2 (vf 3 rfl) rfl rfl) (vf 4 rfl) dEq_i), rfl, fun hc15 => ⟨_, vf 7 rfl, rfl⟩⟩) h.1 rfl)) a0) o_sum)) rfl) h.2 (fun v_many_16 h => sq (ρ1 := [.fz ((eL eLine) v_lines), .fz ((eL eStand) v_stands), zJ v_counts, .un, zI xv12.1, .fz (eLine xv12.2), zI v_many_16, .un, .un, .un]) (sDrop (mfz (cN (x1 (orV (b2 (b2 (vf 5 rfl) rfl rfl) rfl dEq_i) (fun hc17 => b2 (vf 6 rfl) (b2 (vf 5 rfl) rfl rfl) rfl)) (x1 rfl x0)) rfl rfl (e_ask (v_good := ((decide (xv12.2.2.2.1 = (0 : Int))) || (decide (v_many_16 ≤ xv12.2.2.2.1)))) (v_words := ("no more begin than there is room" : Str)) h :) rfl))) (sq (sKill (show _ = [.fz ((eL eLine) v_lines), .fz ((eL eStand) v_stands), zJ v_counts, .un, .un, .un, .un, .un, .un, .un] from rfl)) rfl))⟩)) (⟨_, rfl⟩)))))))
noncomputable def fb_ask_net : M Fl :=
  mSeq (mDrop (mFz (mCallN 2 none fn_ask (xV (mAndV (mChain dLe dLe (M.pure (.int 1)) (mCall dLen (mCons (mVar 0) mNil)) (M.pure (.int 8))) (mChain dLe dLe (M.pure (.int 1)) (mCall dLen (mCons (mVar 1) mNil)) (M.pure (.int 12)))) (xV (M.pure (.str "lines and stands")) xNil)))))
    (mSeq (mFor (mIter (mVar 0)) (gN 3) (mSeq (mDrop (mFz (mCallN 1 none fn_ask_line (xV (mVar 3) xNil))))
    (mSeq (mKill [3]) mNx)))
    (mSeq (mFor (mIter (mVar 1)) (gN 4) (mSeq (mDrop (mFz (mCallN 3 none fn_ask_stand (xV (mVar 4) (xV (mCall dLen (mCons (mVar 0) mNil)) (xV (mCall dLen (mCons (mVar 1) mNil)) xNil))))))
    (mSeq (mKill [4]) mNx)))
    (mSeq (mSet 5 (mLc [4] (mIter (mVar 1)) (gN 4) (M.pure true) (mBin dIx (mVar 4) (M.pure (.int 0)))))
    (mSeq (mFrz 5)
    (mSeq (mDrop (mFz (mCallN 2 none fn_ask (xV (mBin dEq (mFz (mLc [3] (mRange1 (mCons (mCall dLen (mCons (mVar 0) mNil)) mNil)) (gN 3) (mTest (mBin (dIn true) (mVar 3) (mVar 5))) (mVar 3))) (mFz (mLst mNil))) (xV (M.pure (.str "each line has a stand")) xNil)))))
    (mSeq (mAsg (gT 2 (gsC (gN 6) (gsC (gN 7) gsN))) (mVar 2))
    (mSeq (mDrop (mFz (mCallN 2 none fn_ask (xV (mAndV (mBin (dIn false) (mVar 6) (mTup (mCons (M.pure (.str "open")) (mCons (M.pure (.str "shut")) mNil)))) (mBin dEq (mCall dLen (mCons (mVar 7) mNil)) (mCall dLen (mCons (mVar 1) mNil)))) (xV (M.pure (.str "open or shut, a number a stand")) xNil)))))
    (mSeq (mIf (mTest (mBin dEq (mVar 6) (M.pure (.str "open")))) (mSeq (mDrop (mFz (mCallN 2 none fn_ask_rates (xV (mVar 0) (xV (mVar 7) xNil)))))
    mNx) (mSeq (mDrop (mFz (mCallN 3 none fn_ask_counts (xV (mVar 0) (xV (mVar 1) (xV (mVar 7) xNil))))))
    mNx))
    mNx))))))))
noncomputable def fn_ask_net : List D → Rf := runF none 8 fb_ask_net
noncomputable def t_ask_net (v_lines : (List Line)) (v_stands : (List Stand)) (v_comers : (Str × Num)) : Unit :=
  bd (v_stands.map (fun (xv8 : Stand) => xv8.1)) (fun (v_used_11 : (List Int)) => bd v_comers (fun (z15 : (Str × Num)) => ()))
def s_ask_net (v_lines : (List Line)) (v_stands : (List Stand)) (v_comers : (Str × Num)) : Prop :=
  ((s_ask ((((decide ((1 : Int) ≤ (v_lines.length : Int))) && (decide ((v_lines.length : Int) ≤ (8 : Int)))) && ((decide ((1 : Int) ≤ (v_stands.length : Int))) && (decide ((v_stands.length : Int) ≤ (12 : Int)))))) (("lines and stands" : Str))) ∧ (((sfl (fun (z4 : Unit) (xv5 : Line) => ()) (fun (z4 : Unit) (xv5 : Line) => (s_ask_line xv5)) v_lines ()) ∧ (((sfl (fun (z6 : Unit) (xv7 : Stand) => ()) (fun (z6 : Unit) (xv7 : Stand) => (s_ask_stand xv7 ((v_lines.length : Int)) ((v_stands.length : Int)))) v_stands ()) ∧ (((v_stands.length ≤ 10000) ∧ (bd (v_stands.map (fun (xv8 : Stand) => xv8.1)) (fun (v_used_11 : (List Int)) => ((-100000000 < ((v_lines.length : Int)) ∧ ((v_lines.length : Int)) < 100000000) ∧ (((rangeI 0 ((v_lines.length : Int)))).length ≤ 10000) ∧ (s_ask ((decide ((((rangeI 0 ((v_lines.length : Int))).filter (fun (xv12 : Int) => (!decide (xv12 ∈ v_used_11)))).map (fun (xv12 : Int) => xv12)) = ([] : List Int)))) (("each line has a stand" : Str))) ∧ (bd v_comers (fun (z15 : (Str × Num)) => ((s_ask (((decide (z15.1 ∈ [("open" : Str), ("shut" : Str)])) && (decide (((numLen z15.2) : Int) = (v_stands.length : Int))))) (("open or shut, a number a stand" : Str))) ∧ ((((decide (z15.1 = ("open" : Str))) = true → ((z15.2.isLeft = true) ∧ (s_ask_rates v_lines ((numQ z15.2))))) ∧ ((decide (z15.1 = ("open" : Str))) = false → ((z15.2.isRight = true) ∧ (s_ask_counts v_lines v_stands ((numI z15.2))))))))))))))))))))
theorem e_ask_net {v_lines : (List Line)} {v_stands : (List Stand)} {v_comers : (Str × Num)} (h : s_ask_net v_lines v_stands v_comers) : fn_ask_net [(eL eLine) v_lines, (eL eStand) v_stands, (eT2 D.str eNum) v_comers] = .ok (eN (t_ask_net v_lines v_stands v_comers)) .ff .non := by
  refine runE (fb := fb_ask_net) (x := t_ask_net v_lines v_stands v_comers) ?_
  show JE (fb_ask_net [.fz ((eL eLine) v_lines), .fz ((eL eStand) v_stands), .fz ((eT2 D.str eNum) v_comers), .un, .un, .un, .un, .un]) _
  delta fb_ask_net t_ask_net
  delta s_ask_net at h
  exact sq (ρ1 := [.fz ((eL eLine) v_lines), .fz ((eL eStand) v_stands), .fz ((eT2 D.str eNum) v_comers), .un, .un, .un, .un, .un]) (sDrop (mfz (cN (x1 (anV (chn rfl (c1 (a1 (vf 0 rfl) a0) (o_lenL (F := eLine))) rfl (fun hc1 => rfl) (fun _ => rfl)) (fun hc3 => chn rfl (c1 (a1 (vf 1 rfl) a0) (o_lenL (F := eStand))) rfl (fun hc2 => rfl) (fun _ => rfl))) (x1 rfl x0)) rfl rfl (e_ask (v_good := (((decide ((1 : Int) ≤ (v_lines.length : Int))) && (decide ((v_lines.length : Int) ≤ (8 : Int)))) && ((decide ((1 : Int) ≤ (v_stands.length : Int))) && (decide ((v_stands.length : Int) ≤ (12 : Int)))))) (v_words := ("lines and stands" : Str)) h.1 :) rfl))) (bdh h.2 (fun h => sq (ρ1 := [.fz ((eL eLine) v_lines), .fz ((eL eStand) v_stands), .fz ((eT2 D.str eNum) v_comers), .un, .un, .un, .un, .un]) (forN (F := eLine) (ctx := fun (z4 : Unit) => [.fz ((eL eLine) v_lines), .fz ((eL eStand) v_stands), .fz ((eT2 D.str eNum) v_comers), .un, .un, .un, .un, .un]) (i_L (F := eLine) (vf 0 rfl)) h.1 (fun z4 xv5 h => ⟨_, rfl, sq (ρ1 := [.fz ((eL eLine) v_lines), .fz ((eL eStand) v_stands), .fz ((eT2 D.str eNum) v_comers), .fz (eLine xv5), .un, .un, .un, .un]) (sDrop (mfz (cN (x1 (vf 3 rfl) x0) rfl rfl (e_ask_line (v_line := xv5) h :) rfl))) (sq (sKill (show _ = [.fz ((eL eLine) v_lines), .fz ((eL eStand) v_stands), .fz ((eT2 D.str eNum) v_comers), .un, .un, .un, .un, .un] from rfl)) rfl)⟩)) (bdh h.2 (fun h => sq (ρ1 := [.fz ((eL eLine) v_lines), .fz ((eL eStand) v_stands), .fz ((eT2 D.str eNum) v_comers), .un, .un, .un, .un, .un]) (forN (F := eStand) (ctx := fun (z6 : Unit) => [.fz ((eL eLine) v_lines), .fz ((eL eStand) v_stands), .fz ((eT2 D.str eNum) v_comers), .un, .un, .un, .un, .un]) (i_L (F := eStand) (vf 1 rfl)) h.1 (fun z6 xv7 h => ⟨_, rfl, sq (ρ1 := [.fz ((eL eLine) v_lines), .fz ((eL eStand) v_stands), .fz ((eT2 D.str eNum) v_comers), .un, .fz (eStand xv7), .un, .un, .un]) (sDrop (mfz (cN (x1 (vf 4 rfl) (x1 (c1 (a1 (vf 0 rfl) a0) (o_lenL (F := eLine))) (x1 (c1 (a1 (vf 1 rfl) a0) (o_lenL (F := eStand))) x0))) rfl rfl (e_ask_stand (v_stand := xv7) (v_lines := (v_lines.length : Int)) (v_many := (v_stands.length : Int)) h :) rfl))) (sq (sKill (show _ = [.fz ((eL eLine) v_lines), .fz ((eL eStand) v_stands), .fz ((eT2 D.str eNum) v_comers), .un, .un, .un, .un, .un] from rfl)) rfl)⟩)) (bdh h.2 (fun h => sqB (ctx := fun (v_used_11 : (List Int)) => [.fz ((eL eLine) v_lines), .fz ((eL eStand) v_stands), .fz ((eT2 D.str eNum) v_comers), .un, .un, .ow ((eL D.int) v_used_11), .un, .un]) (sSetO (lcM (F := eStand) (G := D.int) (φ := fun (xv8 : Stand) => xv8.1) (ρ1 := [.fz ((eL eLine) v_lines), .fz ((eL eStand) v_stands), .fz ((eT2 D.str eNum) v_comers), .un, .un, .un, .un, .un]) (i_L (F := eStand) (vf 1 rfl)) rfl (fun xv8 hx9 => ⟨_, rfl, rfl, _, b2 (vf 4 rfl) rfl rfl, rfl⟩) h.1 rfl) rfl) h.2 (fun v_used_11 h => sq (sFrz (i := 5) rfl (show _ = [.fz ((eL eLine) v_lines), .fz ((eL eStand) v_stands), .fz ((eT2 D.str eNum) v_comers), .un, .un, zJ v_used_11, .un, .un] from rfl)) (sq (ρ1 := [.fz ((eL eLine) v_lines), .fz ((eL eStand) v_stands), .fz ((eT2 D.str eNum) v_comers), .un, .un, zJ v_used_11, .un, .un]) (sDrop (mfz (cN (x1 (b2 (mfz (lcP (F := D.int) (G := D.int) (p := fun (xv12 : Int) => (!decide (xv12 ∈ v_used_11))) (φ := fun (xv12 : Int) => xv12) (ρ1 := [.fz ((eL eLine) v_lines), .fz ((eL eStand) v_stands), .fz ((eT2 D.str eNum) v_comers), .un, .un, zJ v_used_11, .un, .un]) (i_r1 (a1 (c1 (a1 (vf 0 rfl) a0) (o_lenL (F := eLine))) a0) h.1) rfl (fun xv12 hx13 => ⟨_, rfl, tst (b2 (vf 3 rfl) (vf 5 rfl) (o_ninI (x := xv12) (ys := v_used_11))), rfl, fun hc14 => ⟨_, vf 3 rfl, rfl⟩⟩) h.2.1 rfl)) (mfz (mlst a0)) ((o_eq (F := (eL D.int)) (x := (((rangeI 0 ((v_lines.length : Int))).filter (fun (xv12 : Int) => (!decide (xv12 ∈ v_used_11)))).map (fun (xv12 : Int) => xv12))) (y := ([] : List Int)) (gL gI)))) (x1 rfl x0)) rfl rfl (e_ask (v_good := (decide ((((rangeI 0 ((v_lines.length : Int))).filter (fun (xv12 : Int) => (!decide (xv12 ∈ v_used_11)))).map (fun (xv12 : Int) => xv12)) = ([] : List Int)))) (v_words := ("each line has a stand" : Str)) h.2.2.1 :) rfl))) (bdh h.2.2.2 (fun h => sqB (ctx := fun (z15 : (Str × Num)) => [.fz ((eL eLine) v_lines), .fz ((eL eStand) v_stands), .fz ((eT2 D.str eNum) v_comers), .un, .un, zJ v_used_11, .fz (D.str z15.1), .fz (eNum z15.2)]) (sAsg (vf 2 rfl) rfl) h (fun z15 h => sq (ρ1 := [.fz ((eL eLine) v_lines), .fz ((eL eStand) v_stands), .fz ((eT2 D.str eNum) v_comers), .un, .un, zJ v_used_11, .fz (D.str z15.1), .fz (eNum z15.2)]) (sDrop (mfz (cN (x1 (anV (b2 (vf 6 rfl) (mtup (a1 rfl (a1 rfl a0))) (o_inSV (x := z15.1) (ys := [("open" : Str), ("shut" : Str)]))) (fun hc16 => b2 (c1 (a1 (vf 7 rfl) a0) o_lenNum) (c1 (a1 (vf 1 rfl) a0) (o_lenL (F := eStand))) dEq_i)) (x1 rfl x0)) rfl rfl (e_ask (v_good := ((decide (z15.1 ∈ [("open" : Str), ("shut" : Str)])) && (decide (((numLen z15.2) : Int) = (v_stands.length : Int))))) (v_words := ("open or shut, a number a stand" : Str)) h.1 :) rfl))) (bdh h.2 (fun h => sq (ρ1 := [.fz ((eL eLine) v_lines), .fz ((eL eStand) v_stands), .fz ((eT2 D.str eNum) v_comers), .un, .un, zJ v_used_11, .fz (D.str z15.1), .fz (eNum z15.2)]) (ifJ (ctx := fun (z17 : Unit) => [.fz ((eL eLine) v_lines), .fz ((eL eStand) v_stands), .fz ((eT2 D.str eNum) v_comers), .un, .un, zJ v_used_11, .fz (D.str z15.1), .fz (eNum z15.2)]) (v := ()) (w := ()) (tst (b2 (vf 6 rfl) rfl dEq_s)) (fun hc => (bdh (h.1 hc) (fun h => jnE (ctx := fun (z17 : Unit) => [.fz ((eL eLine) v_lines), .fz ((eL eStand) v_stands), .fz ((eT2 D.str eNum) v_comers), .un, .un, zJ v_used_11, .fz (D.str z15.1), .fz (eNum z15.2)]) (s := ()) (sq (ρ1 := [.fz ((eL eLine) v_lines), .fz ((eL eStand) v_stands), .fz ((eT2 D.str eNum) v_comers), .un, .un, zJ v_used_11, .fz (D.str z15.1), .fz (eNum z15.2)]) (sDrop (mfz (cN (x1 (vf 0 rfl) (x1 ((cNumQ (vf 7 rfl) h.1)) x0)) rfl rfl (e_ask_rates (v_lines := v_lines) (v_rates := (numQ z15.2)) h.2 :) rfl))) rfl)))) (fun hc => (bdh (h.2 hc) (fun h => jnE (ctx := fun (z17 : Unit) => [.fz ((eL eLine) v_lines), .fz ((eL eStand) v_stands), .fz ((eT2 D.str eNum) v_comers), .un, .un, zJ v_used_11, .fz (D.str z15.1), .fz (eNum z15.2)]) (s := ()) (sq (ρ1 := [.fz ((eL eLine) v_lines), .fz ((eL eStand) v_stands), .fz ((eT2 D.str eNum) v_comers), .un, .un, zJ v_used_11, .fz (D.str z15.1), .fz (eNum z15.2)]) (sDrop (mfz (cN (x1 (vf 0 rfl) (x1 (vf 1 rfl) (x1 ((cNumI (vf 7 rfl) h.1)) x0))) rfl rfl (e_ask_counts (v_lines := v_lines) (v_stands := v_stands) (v_counts := (numI z15.2)) h.2 :) rfl))) rfl))))) (⟨_, rfl⟩))))))))))))))
noncomputable def fb_made_net : M Fl :=
  mSeq (mDrop (mFz (mCallN 3 none fn_ask_net (xV (mVar 0) (xV (mVar 1) (xV (mVar 2) xNil))))))
    (mSeq (mSet 3 (mLc [4, 5, 6, 7] (mIter (mVar 0)) (gT 4 (gsC (gN 4) (gsC (gN 5) (gsC (gN 6) (gsC (gN 7) gsN))))) (M.pure true) (mTup (mCons (mFz (mListOf (mCons (mVar 4) mNil))) (mCons (mVar 5) (mCons (mVar 6) (mCons (mVar 7) mNil)))))))
    (mSeq (mFrz 3)
    (mRet (mOf (mTup (mCons (mVar 3) (mCons (mFz (mLc [8, 9, 10] (mIter (mVar 1)) (gT 3 (gsC (gN 8) (gsC (gN 9) (gsC (gN 10) gsN)))) (M.pure true) (mTup (mCons (mVar 8) (mCons (mVar 9) (mCons (mFz (mListOf (mCons (mVar 10) mNil))) mNil)))))) (mCons (mTup (mCons (mBin dIx (mVar 2) (M.pure (.int 0))) (mCons (mFz (mListOf (mCons (mBin dIx (mVar 2) (M.pure (.int 1))) mNil))) mNil))) mNil))))))))
noncomputable def fn_made_net : List D → Rf := runF none 11 fb_made_net
noncomputable def t_made_net (v_lines : (List Line)) (v_stands : (List Stand)) (v_comers : (Str × Num)) : Net :=
  bd (v_lines.map (fun (xv1 : Line) => (xv1.1, xv1.2.1, xv1.2.2.1, xv1.2.2.2))) (fun (v_made_4 : (List Line)) => (v_made_4, (v_stands.map (fun (xv5 : Stand) => (xv5.1, xv5.2.1, xv5.2.2))), (v_comers.1, v_comers.2)))
def s_made_net (v_lines : (List Line)) (v_stands : (List Stand)) (v_comers : (Str × Num)) : Prop :=
  ((s_ask_net v_lines v_stands v_comers) ∧ (((v_lines.length ≤ 10000) ∧ (bd (v_lines.map (fun (xv1 : Line) => (xv1.1, xv1.2.1, xv1.2.2.1, xv1.2.2.2))) (fun (v_made_4 : (List Line)) => (v_stands.length ≤ 10000))))))
theorem e_made_net {v_lines : (List Line)} {v_stands : (List Stand)} {v_comers : (Str × Num)} (h : s_made_net v_lines v_stands v_comers) : fn_made_net [(eL eLine) v_lines, (eL eStand) v_stands, (eT2 D.str eNum) v_comers] = .ok (eNet (t_made_net v_lines v_stands v_comers)) .ff .non := by
  refine run0 (F := eNet) (o := .ff) (fb := fb_made_net) (x := t_made_net v_lines v_stands v_comers) ?_
  show JR eNet .ff (fb_made_net [.fz ((eL eLine) v_lines), .fz ((eL eStand) v_stands), .fz ((eT2 D.str eNum) v_comers), .un, .un, .un, .un, .un, .un, .un, .un]) _
  delta fb_made_net t_made_net
  delta s_made_net at h
  exact sq (ρ1 := [.fz ((eL eLine) v_lines), .fz ((eL eStand) v_stands), .fz ((eT2 D.str eNum) v_comers), .un, .un, .un, .un, .un, .un, .un, .un]) (sDrop (mfz (cN (x1 (vf 0 rfl) (x1 (vf 1 rfl) (x1 (vf 2 rfl) x0))) rfl rfl (e_ask_net (v_lines := v_lines) (v_stands := v_stands) (v_comers := v_comers) h.1 :) rfl))) (bdh h.2 (fun h => sqB (ctx := fun (v_made_4 : (List Line)) => [.fz ((eL eLine) v_lines), .fz ((eL eStand) v_stands), .fz ((eT2 D.str eNum) v_comers), .ow ((eL eLine) v_made_4), .un, .un, .un, .un, .un, .un, .un]) (sSetO (lcM (F := eLine) (G := eLine) (φ := fun (xv1 : Line) => (xv1.1, xv1.2.1, xv1.2.2.1, xv1.2.2.2)) (ρ1 := [.fz ((eL eLine) v_lines), .fz ((eL eStand) v_stands), .fz ((eT2 D.str eNum) v_comers), .un, .un, .un, .un, .un, .un, .un, .un]) (i_L (F := eLine) (vf 0 rfl)) rfl (fun xv1 hx2 => ⟨_, rfl, rfl, _, mtup (a1 (mfz (lofL (F := fq) (a1 (vf 4 rfl) a0))) (a1 (vf 5 rfl) (a1 (vf 6 rfl) (a1 (vf 7 rfl) a0)))), rfl⟩) h.1 rfl) rfl) h.2 (fun v_made_4 h => sq (sFrz (i := 3) rfl (show _ = [.fz ((eL eLine) v_lines), .fz ((eL eStand) v_stands), .fz ((eT2 D.str eNum) v_comers), .fz ((eL eLine) v_made_4), .un, .un, .un, .un, .un, .un, .un] from rfl)) (sRet (mof (mtup (a1 (vf 3 rfl) (a1 (mfz (lcM (F := eStand) (G := eStand) (φ := fun (xv5 : Stand) => (xv5.1, xv5.2.1, xv5.2.2)) (ρ1 := [.fz ((eL eLine) v_lines), .fz ((eL eStand) v_stands), .fz ((eT2 D.str eNum) v_comers), .fz ((eL eLine) v_made_4), .un, .un, .un, .un, .un, .un, .un]) (i_L (F := eStand) (vf 1 rfl)) rfl (fun xv5 hx6 => ⟨_, rfl, rfl, _, mtup (a1 (vf 8 rfl) (a1 (vf 9 rfl) (a1 (mfz (lofL (F := eWay) (a1 (vf 10 rfl) a0))) a0))), rfl⟩) h rfl)) (a1 (mtup (a1 (b2 (vf 2 rfl) rfl rfl) (a1 (mfz (lofNum (a1 (b2 (vf 2 rfl) rfl rfl) a0))) a0))) a0))))) (jr_mk rfl)))))
end Net
namespace Dt
open PySem L2
@[simp] theorem bd_eq {α β : Sort _} (v : α) (b : α → β) : bd v b = b v := rfl
inductive All2 {α β : Type} (R : α → β → Prop) : List α → List β → Prop
  | nil : All2 R [] []
  | cons {x : α} {y : β} {xs : List α} {ys : List β} : R x y → All2 R xs ys → All2 R (x :: xs) (y :: ys)
theorem All2.len {α β : Type} {R : α → β → Prop} {xs : List α} {ys : List β} (h : All2 R xs ys) : xs.length = ys.length := by
  induction h with
  | nil => rfl
  | cons _ _ ih => simp [ih]
theorem All2.right {α β : Type} {P : β → Prop} {R : α → β → Prop} {xs : List α} {ys : List β} (h : All2 R xs ys) (k : ∀ x ∈ xs, ∀ y, R x y → P y) : ∀ y ∈ ys, P y := by
  induction h with
  | nil => intro y hy; cases hy
  | cons r t ih =>
    intro y hy
    rcases List.mem_cons.mp hy with rfl | hy
    · exact k _ (by simp) _ r
    · exact ih (fun x hx => k x (List.mem_cons_of_mem _ hx)) y hy
section
variable {σ α β ρ : Type}
theorem sfl_all {f : σ → α → σ} {S : σ → α → Prop} : ∀ {xs : List α} {s : σ}, (∀ s, ∀ x ∈ xs, S s x) → sfl f S xs s
  | [], _, _ => trivial
  | x :: r, s, h => ⟨h s x (by simp), sfl_all fun s y hy => h s y (List.mem_cons_of_mem _ hy)⟩
theorem sfl_of {f : σ → α → σ} {S : σ → α → Prop} (I : Nat → σ → Prop) : ∀ (xs : List α) (s : σ) (k : Nat), I k s → (∀ j (hj : j < xs.length) s, I (k + j) s → S s xs[j] ∧ I (k + j + 1) (f s xs[j])) → sfl f S xs s ∧ I (k + xs.length) (xs.foldl f s)
  | [], s, k, h, _ => ⟨trivial, h⟩
  | x :: r, s, k, h, hs => by
    obtain ⟨h1, h2⟩ := hs 0 (by simp) s h
    obtain ⟨h3, h4⟩ := sfl_of I r (f s x) (k + 1) h2 (fun j hj s hI => by
      have := hs (j + 1) (by simpa using hj) s (by rw [show k + (j + 1) = k + 1 + j by omega]; exact hI)
      rw [show k + (j + 1) + 1 = k + 1 + j + 1 by omega] at this
      exact this)
    refine ⟨⟨h1, h3⟩, ?_⟩
    rw [show k + (x :: r).length = k + 1 + r.length by simp; omega]
    exact h4
theorem sfl_of0 {f : σ → α → σ} {S : σ → α → Prop} (I : Nat → σ → Prop) (xs : List α) (s : σ) (h : I 0 s) (hs : ∀ j (hj : j < xs.length) s, I j s → S s xs[j] ∧ I (j + 1) (f s xs[j])) : sfl f S xs s ∧ I xs.length (xs.foldl f s) := by
  have := sfl_of I xs s 0 h (fun j hj s hI => by rw [Nat.zero_add] at hI ⊢; exact hs j hj s hI)
  rw [Nat.zero_add] at this; exact this
theorem flw_nx {f : σ → α → Fw σ ρ} {S : σ → α → Prop} (I : Nat → σ → Prop) : ∀ (xs : List α) (s : σ) (k : Nat), I k s → (∀ j (hj : j < xs.length) s, I (k + j) s → S s xs[j] ∧ ∃ s', f s xs[j] = .nx s' ∧ I (k + j + 1) s') → sflw f S xs s ∧ ∃ s', flw f xs s = .nx s' ∧ I (k + xs.length) s'
  | [], s, k, h, _ => ⟨trivial, s, rfl, h⟩
  | x :: r, s, k, h, hs => by
    obtain ⟨h1, s', h2, h3⟩ := hs 0 (by simp) s h
    obtain ⟨h4, s2, h5, h6⟩ := flw_nx I r s' (k + 1) h3 (fun j hj s hI => by
      have := hs (j + 1) (by simpa using hj) s (by rw [show k + (j + 1) = k + 1 + j by omega]; exact hI)
      rw [show k + (j + 1) + 1 = k + 1 + j + 1 by omega] at this
      exact this)
    have h2' : f s x = .nx s' := h2
    refine ⟨⟨h1, by rw [h2']; exact h4⟩, s2, ?_, ?_⟩
    · unfold flw; rw [h2']; exact h5
    · rw [show k + (x :: r).length = k + 1 + r.length by simp; omega]; exact h6
theorem flw_prop {f : σ → α → Fw σ ρ} {S : σ → α → Prop} (I : σ → Prop) (xs : List α) (s : σ) (h : I s) (hs : ∀ x ∈ xs, ∀ s, I s → S s x ∧ ∃ s', f s x = .nx s' ∧ I s') : sflw f S xs s ∧ ∃ s', flw f xs s = .nx s' ∧ I s' :=
  flw_nx (fun _ s => I s) xs s 0 h (fun j hj s hI => hs _ (List.getElem_mem hj) s hI)
theorem lcS_map {e : α → σ → β × σ} {S : α → σ → Prop} (R : α → β → Prop) : ∀ (xs : List α) (s : σ),
    (∀ x ∈ xs, ∀ s, S x s ∧ R x (e x s).1) → slcS (fun _ s => (true, s)) e S xs s ∧ All2 R xs (lcS (fun _ s => (true, s)) e xs s).1
  | [], s, _ => ⟨trivial, .nil⟩
  | x :: r, s, hs => by
    obtain ⟨h1, h2⟩ := hs x (by simp) s
    obtain ⟨h3, h4⟩ := lcS_map (e := e) (S := S) R r (e x s).2 (fun y hy => hs y (List.mem_cons_of_mem _ hy))
    exact ⟨⟨h1, fun _ => h3, fun z => by cases z⟩, .cons h2 h4⟩
end
theorem rangeI_len (lo hi : Int) : (rangeI lo hi).length = (hi - lo).toNat := by unfold rangeI; rw [List.length_map, List.length_range]
theorem rangeI_get {lo hi : Int} {k : Nat} (h : k < (rangeI lo hi).length) : (rangeI lo hi)[k] = lo + (k : Int) := by
  have : (rangeI lo hi)[k]? = some (lo + (k : Int)) := by
    have h' := h
    rw [rangeI_len] at h'
    unfold rangeI
    rw [List.getElem?_map, List.getElem?_range h']; rfl
  rw [List.getElem?_eq_getElem h] at this
  injection this
theorem mem_rangeI {lo hi x : Int} : x ∈ rangeI lo hi ↔ lo ≤ x ∧ x < hi := by
  unfold rangeI
  rw [List.mem_map]
  constructor
  · rintro ⟨k, hk, rfl⟩
    rw [List.mem_range] at hk
    omega
  · intro h
    exact ⟨(x - lo).toNat, by rw [List.mem_range]; omega, by omega⟩
theorem ix_nat {α : Type} [Inhabited α] {xs : List α} {i : Int} (h0 : 0 ≤ i) (h1 : i < xs.length) : ∃ h : i.toNat < xs.length, ix xs i = xs[i.toNat] := by
  have h : i.toNat < xs.length := by omega
  refine ⟨h, ?_⟩
  unfold ix ixN'
  rw [if_neg (by omega), List.getD_eq_getElem?_getD, List.getElem?_eq_getElem h]; rfl
theorem ix_mem {α : Type} [Inhabited α] {xs : List α} {i : Int} (h : InB xs.length i) : ix xs i ∈ xs := by
  obtain ⟨_, h2⟩ := ixN_of h
  unfold ix
  rw [List.getD_eq_getElem?_getD, List.getElem?_eq_getElem h2]
  exact List.getElem_mem h2
theorem inB_nat {n : Nat} {i : Int} (h0 : 0 ≤ i) (h1 : i < n) : InB n i := ⟨by omega, h1⟩
theorem mem_enumI {α : Type} {xs : List α} {p : Int × α} (h : p ∈ enumI xs) : ∃ k, ∃ hk : k < xs.length, p = ((k : Int), xs[k]) := by
  unfold enumI at h
  obtain ⟨k, hk, rfl⟩ := List.mem_iff_getElem.mp h
  rw [List.length_zip, rangeI_len] at hk
  have h1 : k < xs.length := by omega
  refine ⟨k, h1, ?_⟩
  rw [List.getElem_zip, rangeI_get]
  simp
theorem cut_butlast {α : Type} {xs : List α} : cut xs none (some (-1)) = xs.dropLast := by
  have e : HT.sIx xs.length xs.length (some (-1)) = xs.length - 1 := by
    show (if (-1 : Int) < 0 then (-1 + (xs.length : Int)).toNat else min (-1 : Int).toNat xs.length) = _
    rw [if_pos (by decide)]; omega
  unfold cut
  rw [e]
  show (xs.drop 0).take (xs.length - 1 - 0) = _
  rw [List.drop_zero, List.dropLast_eq_take]; rfl
theorem cut_tail {α : Type} {xs : List α} : cut xs (some 1) none = xs.drop 1 := by
  have e : HT.sIx xs.length 0 (some 1) = min 1 xs.length := by
    show (if (1 : Int) < 0 then (1 + (xs.length : Int)).toNat else min (1 : Int).toNat xs.length) = _
    rw [if_neg (by decide)]; rfl
  unfold cut
  rw [e]
  show (xs.drop _).take (xs.length - _) = _
  rw [List.take_of_length_le (by rw [List.length_drop]; exact Nat.le_refl _)]
  cases xs with
  | nil => rfl
  | cons x r =>
    rw [show min 1 (x :: r).length = 1 by simp]
theorem maxL_mem {xs : List Int} (h : xs ≠ []) : maxL xs ∈ xs := by
  cases xs with
  | nil => exact absurd rfl h
  | cons n ns =>
    rcases (foldl_max n ns).1 with q | q
    · show ns.foldl max n ∈ _; rw [q]; simp
    · exact List.mem_cons_of_mem _ q
theorem le_maxL {xs : List Int} {x : Int} (h : x ∈ xs) : x ≤ maxL xs := by
  cases xs with
  | nil => cases h
  | cons n ns =>
    rcases List.mem_cons.mp h with rfl | h
    · exact (foldl_max x ns).2.1
    · exact (foldl_max n ns).2.2 x h
theorem minL_mem {xs : List Int} (h : xs ≠ []) : minL xs ∈ xs := by
  cases xs with
  | nil => exact absurd rfl h
  | cons n ns =>
    rcases (foldl_min n ns).1 with q | q
    · show ns.foldl min n ∈ _; rw [q]; simp
    · exact List.mem_cons_of_mem _ q
end Dt
namespace Dt
def IsT (b : Bool) : Prop := b = true
section
variable {α β : Type} {P : β → Prop} {A B S1 S2 : Prop} {t t1 t2 : β} {c : Bool}
theorem hd_bd {v : α} {S : α → Prop} {b : α → β} (Q : α → Prop) (hq : Q v) (h : ∀ z, Q z → S z ∧ P (b z)) : bd v S ∧ P (bd v b) := h v hq
theorem hd_eq {v : α} {S : α → Prop} {b : α → β} (h : S v ∧ P (b v)) : bd v S ∧ P (bd v b) := h
theorem hd_and (a : A) (h : B ∧ P t) : (A ∧ B) ∧ P t := ⟨⟨a, h.1⟩, h.2⟩
theorem hd_cond (h1 : c = true → S1 ∧ P t1) (h2 : c = false → S2 ∧ P t2) : ((c = true → S1) ∧ (c = false → S2)) ∧ P (cond c t1 t2) := by
  cases c with
  | true => exact ⟨⟨fun _ => (h1 rfl).1, fun z => absurd z.symm Bool.false_ne_true⟩, (h1 rfl).2⟩
  | false => exact ⟨⟨fun z => absurd z Bool.false_ne_true, fun _ => (h2 rfl).1⟩, (h2 rfl).2⟩
theorem hd_fold {σ : Type} {f : σ → α → σ} {S : σ → α → Prop} {xs : List α} {s : σ} {S' : σ → Prop} {b : σ → β} (I : Nat → σ → Prop) (h0 : I 0 s) (hs : ∀ j (hj : j < xs.length) s, I j s → S s xs[j] ∧ I (j + 1) (f s xs[j])) (h : ∀ z, I xs.length z → S' z ∧ P (b z)) : (sfl f S xs s ∧ bd (xs.foldl f s) S') ∧ P (bd (xs.foldl f s) b) := by
  obtain ⟨h1, h2⟩ := sfl_of0 I xs s h0 hs
  exact ⟨⟨h1, (h _ h2).1⟩, (h _ h2).2⟩
theorem hd_flwT {σ ρ : Type} {f : σ → α → Fw σ ρ} {S : σ → α → Prop} {xs : List α} {s : σ} {kr : ρ → β} {kn : σ → β} (I : σ → Prop) (h0 : I s) (hs : ∀ x ∈ xs, ∀ s, I s → S s x ∧ ∃ s', f s x = .nx s' ∧ I s') (h : ∀ z, I z → P (kn z)) : sflw f S xs s ∧ P (fwc (flw f xs s) kr kn) := by
  obtain ⟨h1, z, h2, h3⟩ := flw_prop I xs s h0 hs
  rw [h2]
  exact ⟨h1, h z h3⟩
theorem hd_last {v : α} (h : (A ∧ bd v (fun _ => True)) ∧ P t) : A ∧ P t := ⟨h.1.1, h.2⟩
end
end Dt
namespace Net
open PySem L2 Dt Std
theorem s_ask_iff {g : Bool} {w : Str} : s_ask g w ↔ g = true := by
  unfold s_ask; cases g <;> simp
def SmQ (q : Rat) : Prop := 0 ≤ q.num ∧ q.num ≤ 1000 ∧ q.den ≤ 1000
structure GoodLine (l : Line) : Prop where
  n1 : 1 ≤ l.1.length
  n6 : l.1.length ≤ 6
  sp : ∀ x ∈ l.1, SmQ x ∧ 0 < x
  up : l.1.Pairwise (· ≤ ·)
  mo : SmQ l.2.1
  r0 : 0 ≤ l.2.2.1
  r9 : l.2.2.1 ≤ 9
  ru : (l.2.2.1 = 0 ∧ l.2.2.2 = "") ∨ (0 < l.2.2.1 ∧ l.2.2.2 ∈ [("stay" : Str), "lose", "skip"])
structure GoodStand (nl ns : Nat) (s : Stand) : Prop where
  l0 : 0 ≤ s.1
  l1 : s.1 < nl
  ra : SmQ s.2.1 ∧ 0 < s.2.1
  wy : ∀ w ∈ s.2.2, 0 ≤ w.1 ∧ w.1 < ns ∧ SmQ w.2 ∧ 0 < w.2
  up : s.2.2.Pairwise (fun a b => a.1 < b.1)
  le : sumQ (s.2.2.map (·.2)) ≤ 1
def begins (ss : List Stand) (c : List Int) (i : Int) : Int := (((c.zip ss).filter (fun x => decide (x.2.1 = i))).map (·.1)).sum
def GoodCom (ls : List Line) (ss : List Stand) (c : Com) : Prop :=
  (c.1 = "open" ∧ ∃ r, c.2 = .inl r ∧ r.length = ss.length ∧ (∀ x ∈ r, SmQ x) ∧ (∃ x ∈ r, x ≠ 0) ∧ ((∀ l ∈ ls, l.2.2.1 = 0 ∧ l.2.1 = 0) ∨ ∀ l ∈ ls, 0 < l.2.2.1)) ∨
  (c.1 = "shut" ∧ ∃ n, c.2 = .inr n ∧ n.length = ss.length ∧ (∀ x ∈ n, 0 ≤ x) ∧ 1 ≤ n.sum ∧ n.sum ≤ 8 ∧ (∀ l ∈ ls, l.2.2.2 ≠ "lose") ∧ (∀ s ∈ ss, sumQ (s.2.2.map (·.2)) = 1) ∧ ∀ (i : Nat) (h : i < ls.length), ls[i].2.2.1 = 0 ∨ begins ss n i ≤ ls[i].2.2.1)
structure GoodNet (ls : List Line) (ss : List Stand) (c : Com) : Prop where
  l1 : 1 ≤ ls.length
  l8 : ls.length ≤ 8
  s1 : 1 ≤ ss.length
  s12 : ss.length ≤ 12
  ln : ∀ l ∈ ls, GoodLine l
  st : ∀ s ∈ ss, GoodStand ls.length ss.length s
  us : ∀ i : Nat, i < ls.length → ∃ s ∈ ss, s.1 = (i : Int)
  cm : GoodCom ls ss c
theorem SmQ.sz {q : Rat} (h : SmQ q) : sz q ≤ 10 := sz_le ⟨by have := h.1; have := h.2.1; omega, by have := h.2.2; omega⟩
theorem ask_fraction_s {q : Rat} {k : Bool} (h : SmQ q) (h2 : k = true → 0 < q) : s_ask_fraction q k := by
  obtain ⟨a, b, c⟩ := h
  have d := den_pos q
  have hg : Nat.gcd q.num.toNat ((q.den : Int)).toNat = 1 := by
    have := q.reduced
    rw [Int.toNat_natCast, show q.num.toNat = q.num.natAbs by omega]
    exact this
  unfold s_ask_fraction
  simp only [bd_eq, s_ask_iff, hg]
  refine ⟨fun _ _ => ⟨a, by omega⟩, ?_, ?_⟩
  · simp only [Bool.and_eq_true, decide_eq_true_eq]; omega
  · cases k with
    | false => simp
    | true =>
      have := h2 rfl
      have := num_pos this
      simp only [Bool.or_eq_true, decide_eq_true_eq]; omega
theorem ask_line_s {l : Line} (h : GoodLine l) : s_ask_line l := by
  unfold s_ask_line
  simp only [bd_eq, s_ask_iff]
  have n1 := h.n1
  have n6 := h.n6
  have r0 := h.r0
  have r9 := h.r9
  refine ⟨by simp; omega, sfl_all fun _ x hx => ask_fraction_s (h.sp x hx).1 fun _ => (h.sp x hx).2, sfl_all fun _ p hp => ?_, ask_fraction_s h.mo (fun z => by cases z), by simp; omega, ?_, ?_⟩
  · rw [cut_butlast, cut_tail] at hp
    obtain ⟨h1, h2⟩ := List.of_mem_zip hp
    have m1 : p.1 ∈ l.1 := List.dropLast_subset _ h1
    have m2 : p.2 ∈ l.1 := List.mem_of_mem_drop h2
    refine ⟨?_, ?_⟩
    · have := (h.sp _ m1).1.sz
      have := (h.sp _ m2).1.sz
      unfold SQ; omega
    · obtain ⟨k, hk, e⟩ := List.mem_iff_getElem.mp hp
      rw [List.length_zip, List.length_dropLast, List.length_drop] at hk
      rw [List.getElem_zip, List.getElem_dropLast, List.getElem_drop] at e
      have := List.pairwise_iff_getElem.mp h.up k (1 + k) (by omega) (by omega) (by omega)
      rw [← e]
      simp only [Bool.not_eq_true', decide_eq_false_iff_not]
      exact Rat.not_lt.mpr this
  · intro z
    rw [decide_eq_true_iff] at z
    rcases h.ru with ⟨_, e⟩ | ⟨e, _⟩
    · exact decide_eq_true e
    · omega
  · intro z
    rw [decide_eq_false_iff_not] at z
    rcases h.ru with ⟨e, _⟩ | ⟨_, e⟩
    · exact absurd e z
    · exact decide_eq_true e
theorem tsz_sm {xs : List Rat} (h : ∀ x ∈ xs, SmQ x) : tsz xs ≤ xs.length * 11 + 1 := tsz_le fun x hx => (h x hx).sz
theorem rising_len {n : Nat} : ∀ {xs : List Int} {lo : Int}, (∀ x ∈ xs, lo ≤ x ∧ x < n) → xs.Pairwise (· < ·) → 0 ≤ lo → lo ≤ n → (xs.length : Int) + lo ≤ n
  | [], lo, _, _, _, h => by simpa using h
  | x :: r, lo, h, p, h0, h1 => by
    rw [List.pairwise_cons] at p
    have hx := h x (by simp)
    have := rising_len (xs := r) (lo := x + 1) (fun y hy => ⟨by have := p.1 y hy; omega, (h y (List.mem_cons_of_mem _ hy)).2⟩) p.2 (by omega) (by omega)
    rw [List.length_cons]; omega
theorem ways_len {nl ns : Nat} {s : Stand} (h : GoodStand nl ns s) : s.2.2.length ≤ ns := by
  have := rising_len (n := ns) (xs := s.2.2.map (·.1)) (lo := 0) (fun x hx => by
    obtain ⟨w, hw, rfl⟩ := List.mem_map.mp hx
    have := h.wy w hw
    exact ⟨this.1, this.2.1⟩) (by rw [List.pairwise_map]; exact h.up) (by decide) (by omega)
  rw [List.length_map] at this
  omega
theorem ask_stand_s {nl ns : Nat} {s : Stand} (h : GoodStand nl ns s) (hn : ns ≤ 12) : s_ask_stand s nl ns := by
  have wl := ways_len h
  have ht : tsz (s.2.2.map (·.2)) ≤ s.2.2.length * 11 + 1 := by
    have := tsz_sm (xs := s.2.2.map (·.2)) (fun x hx => by
      obtain ⟨w, hw, rfl⟩ := List.mem_map.mp hx
      exact (h.wy w hw).2.2.1)
    rw [List.length_map] at this
    exact this
  have hz := sz_sumL (s.2.2.map (·.2))
  unfold s_ask_stand
  simp only [bd_eq, s_ask_iff]
  refine ⟨by simp; exact ⟨h.l0, h.l1⟩, ask_fraction_s h.ra.1 fun _ => h.ra.2, ?_, by omega, by omega, by unfold SQ; rw [sz_1]; omega, ?_⟩
  · refine (sfl_of0 (fun k (z : Int) => (k = 0 → z = -1) ∧ ∀ j (hj : j < s.2.2.length), j + 1 = k → z = s.2.2[j].1) s.2.2 (-1) ⟨fun _ => rfl, fun j hj e => by omega⟩ (fun k hk z hz => ?_)).1
    have hw := h.wy _ (List.getElem_mem hk)
    refine ⟨⟨?_, ask_fraction_s hw.2.2.1 fun _ => hw.2.2.2⟩, fun e => by omega, fun j hj e => by
      have : j = k := by omega
      subst this; rfl⟩
    simp only [Bool.and_eq_true, decide_eq_true_eq]
    refine ⟨?_, hw.2.1⟩
    cases k with
    | zero => rw [hz.1 rfl]; have := hw.1; omega
    | succ k =>
      rw [hz.2 k (by omega) rfl]
      exact List.pairwise_iff_getElem.mp h.up k (k + 1) (by omega) hk (by omega)
  · simp only [Bool.not_eq_true', decide_eq_false_iff_not]
    exact Rat.not_lt.mpr h.le
theorem rule_ok {x : Str} (h : x ∈ [("stay" : Str), "lose", "skip"] ∨ x = "") : PyData.strOk x = true := by
  rcases h with h | rfl
  · simp only [List.mem_cons, List.not_mem_nil, or_false] at h
    rcases h with rfl | rfl | rfl <;> decide +kernel
  · decide +kernel
theorem GoodLine.okS {l : Line} (h : GoodLine l) : PyData.strOk l.2.2.2 = true := by
  rcases h.ru with ⟨_, e⟩ | ⟨_, e⟩
  · exact rule_ok (.inr e)
  · exact rule_ok (.inl e)
theorem ok_line {l : Line} (h : PyData.strOk l.2.2.2 = true) {n : Nat} (hn : 3 ≤ n) : okD n (eLine l) = true := by
  obtain ⟨m, rfl⟩ : ∃ m, n = m + 3 := ⟨n - 3, by omega⟩
  have h1 := okD_up (show 2 ≤ m + 2 by omega) ((gL gQ).ok l.1)
  have h2 := okD_up (show 1 ≤ m + 2 by omega) (gQ.ok l.2.1)
  show (okD (m + 2) (eL fq l.1) && (okD (m + 2) (fq l.2.1) && (okD (m + 2) (D.int l.2.2.1) && (okD (m + 2) (D.str l.2.2.2) && true)))) = true
  rw [h1, h2, okD_int]
  simpa [okD] using h
theorem ok_lines {ls : List Line} (h : ∀ l ∈ ls, PyData.strOk l.2.2.2 = true) {n : Nat} (hn : 4 ≤ n) : okD n (eL eLine ls) = true := by
  obtain ⟨m, rfl⟩ : ∃ m, n = m + 1 := ⟨n - 1, by omega⟩
  show (ls.map eLine).all (okD m) = true
  rw [List.all_map, List.all_eq_true]
  exact fun l hl => ok_line (h l hl) (by omega)
theorem okE_lines {ls : List Line} (h : ∀ l ∈ ls, GoodLine l) : OkE (eL eLine) ls := ok_lines (fun l hl => (h l hl).okS) (by decide)
theorem filter_nil {α : Type} {p : α → Bool} {xs : List α} (h : ∀ x ∈ xs, p x = false) : xs.filter p = [] := by
  rw [List.filter_eq_nil_iff]
  intro x hx; rw [h x hx]; simp
theorem good_made {ls : List Line} {ss : List Stand} {c : Com} (h : GoodNet ls ss c) : s_made_net ls ss c := by
  have l1 := h.l1
  have l8 := h.l8
  have s1 := h.s1
  have s12 := h.s12
  unfold s_made_net
  simp only [bd_eq]
  refine ⟨?_, by omega, by omega⟩
  unfold s_ask_net
  simp only [bd_eq, s_ask_iff]
  refine ⟨by simp; omega, sfl_all fun _ l hl => ask_line_s (h.ln l hl), sfl_all fun _ s hs => ask_stand_s (h.st s hs) s12, by omega, by omega, by rw [rangeI_len]; omega, ?_, ?_, ?_, ?_⟩
  · rw [decide_eq_true_iff, filter_nil, List.map_nil]
    intro x hx
    rw [mem_rangeI] at hx
    obtain ⟨s, hs, e⟩ := h.us x.toNat (by omega)
    have : x ∈ ss.map (fun x => x.1) := List.mem_map.mpr ⟨s, hs, by omega⟩
    simpa using this
  · rcases h.cm with ⟨e, r, e2, hl, _⟩ | ⟨e, r, e2, hl, _⟩
    · simp [e, e2, numLen, hl]
    · simp [e, e2, numLen, hl]
  · intro z
    rw [decide_eq_true_iff] at z
    rcases h.cm with ⟨e, r, e2, hl, h1, ⟨x, hx, h2⟩, h3⟩ | ⟨e, r, e2, _⟩
    · rw [e2]
      refine ⟨rfl, ?_⟩
      show s_ask_rates ls r
      unfold s_ask_rates
      simp only [bd_eq, s_ask_iff]
      have hne : ls.map (fun x => x.2.2.1) ≠ [] := by
        intro z
        have := congrArg List.length z
        simp at this; rw [this] at l1; simp at l1
      refine ⟨sfl_all fun _ x hx => ask_fraction_s (h1 x hx) (fun z => by cases z), by omega, ?_, by omega, hne, ?_, ?_⟩
      · rw [Bool.not_eq_true', decide_eq_false_iff_not]
        intro z
        have : x ∈ (r.filter (fun x => !decide (x = 0))).map (fun x => x) := List.mem_map.mpr ⟨x, List.mem_filter.mpr ⟨hx, by simp [h2]⟩, rfl⟩
        rw [z] at this; cases this
      · intro z
        rw [decide_eq_true_iff] at z
        refine ⟨by omega, ?_, rfl, ?_⟩
        · refine okE_lines fun l hl => h.ln l ?_
          obtain ⟨l', hl', rfl⟩ := List.mem_map.mp hl
          exact (List.mem_filter.mp hl').1
        · rw [decide_eq_true_iff, filter_nil, List.map_nil]
          intro l hl
          rcases h3 with h3 | h3
          · simp [(h3 l hl).2]
          · have h4 : l.2.2.1 ≤ maxL (ls.map fun x => x.2.2.1) := le_maxL (List.mem_map.mpr ⟨l, hl, rfl⟩)
            have := h3 l hl
            omega
      · intro z
        rw [decide_eq_false_iff_not] at z
        refine ⟨hne, ?_⟩
        rw [decide_eq_true_iff]
        obtain ⟨l, hl, e4⟩ := List.mem_map.mp (minL_mem hne)
        obtain ⟨l', hl', e5⟩ := List.mem_map.mp (maxL_mem hne)
        rcases h3 with h3 | h3
        · have := h3 l' hl'; omega
        · have := h3 l hl; omega
    · rw [e] at z; exact absurd z (by decide)
  · intro z
    rw [decide_eq_false_iff_not] at z
    rcases h.cm with ⟨e, _⟩ | ⟨e, n, e2, hl, h1, h2, h3, h4, h5, h6⟩
    · exact absurd e z
    · rw [e2]
      refine ⟨rfl, ?_⟩
      show s_ask_counts ls ss n
      unfold s_ask_counts
      simp only [bd_eq, s_ask_iff]
      have hne : n ≠ [] := by intro z; rw [z] at h2; simp at h2
      refine ⟨hne, ?_, by omega, ?_, rfl, ?_, sfl_all fun _ s hs => ⟨?_, ?_, ?_⟩, sfl_all fun _ p hp => ⟨?_, ?_⟩⟩
      · have := h1 _ (minL_mem hne)
        simp only [Bool.and_eq_true, decide_eq_true_eq]; omega
      · refine okE_lines fun l hl => h.ln l ?_
        obtain ⟨l', hl', rfl⟩ := List.mem_map.mp hl
        exact (List.mem_filter.mp hl').1
      · rw [decide_eq_true_iff, filter_nil, List.map_nil]
        intro l hl
        simp [h4 l hl]
      · have := ways_len (h.st s hs); omega
      · have := tsz_sm (xs := s.2.2.map (·.2)) (fun x hx => by
          obtain ⟨w, hw, rfl⟩ := List.mem_map.mp hx
          exact ((h.st s hs).wy w hw).2.2.1)
        rw [List.length_map] at this
        have := ways_len (h.st s hs)
        show tsz (s.2.2.map (·.2)) ≤ _
        omega
      · exact decide_eq_true (h5 s hs)
      · rw [List.length_zip]; omega
      · obtain ⟨k, hk, rfl⟩ := mem_enumI hp
        rcases h6 k hk with q | q
        · simp [q]
        · have : begins ss n k ≤ ls[k].2.2.1 := q
          unfold begins at this
          simp [this]
theorem e_made_net_ {ls : List Line} {ss : List Stand} {c : Com} (h : GoodNet ls ss c) : fn_made_net [eL eLine ls, eL eStand ss, eT2 D.str eNum c] = .ok (eNet ((ls, ss, c) : Net)) .ff .non := by
  rw [e_made_net (good_made h)]
  have : t_made_net ls ss c = (ls, ss, c) := by
    unfold t_made_net
    simp only [bd_eq]
    congr 1
    · exact List.map_id' _
    · congr 1
      exact List.map_id' _
  rw [this]
end Net
namespace Dt
open PySem PySem.Spec PyProof.Rows L2
def lookK {α : Type} : List Int → List α → Int → Option α
  | k :: ks, x :: xs, z => if k = z then some x else lookK ks xs z
  | _, _, _ => none
def putKs (ks : List Int) (z : Int) : List Int := if z ∈ ks then ks else ks ++ [z]
def putVs {α : Type} (ks : List Int) (xs : List α) (z : Int) (v : α) : List α := if z ∈ ks then List.zipWith (fun k x => if k = z then v else x) ks xs else xs ++ [v]
section
variable {K : PySem.W.Frag} {B H : Hp}
end
section
variable {X : Cx} {W : WX} {e a b kx : Expr} {pos : Pos} {i : Nat} {x : Str} {px : Pos} {K : PySem.W.Frag}
def mDPut (i : Nat) (fe fk : M D) : M Fl := M.bind fe fun d => M.bind (chk i) fun _ => M.bind fk fun k ρ => match ρ[i]?, k with
  | some (.ow (.dic ks ds)), .int z => if ks.length < 10000 then .ok .nx (ρ.set i (.ow (.dic (putKs ks z) (putVs ks ds z d)))) else .fail
  | _, _ => .fail
def mListD (f : M (List D)) : M (D × Ob) := M.bind f fun ds => M.opt (match ds with
  | [.dic ks _] => some (.lst (ks.map D.int), .tt)
  | _ => none)
def mSortI (f : M (List D)) : M (D × Ob) := M.bind f fun ds => M.opt (match ds with
  | [.lst xs] => (asInts xs).map fun ns => (.lst ((PySem.W.sortI ns).map D.int), .tt)
  | _ => none)
theorem eo_sortI {p : Pos} {f : M (List D)} (hm : X.mg "sorted" = none) (ha : EA X W [a] f) (hg : Gl X "sorted" := by rfl) (he : starEach (a :: []) X.env = (false, eval a X.env) :: starEach [] X.env := by rfl) : EO X W (.Call (.Name "sorted" p) [a] [] pos) (mSortI f) := by
  intro F ρ σ B H Q L P
  refine PE.we (pe_callB cr_sortedI hg hm (by decide +kernel) pa_wa (by decide) (by decide) he) ?_
  refine ha F ρ σ B H _ L ((Post.bind P).imp fun ds ρ1 B1 H1 e1 L1 P1 vs fs => ?_)
  obtain ⟨d, hd, k⟩ := P1.opt
  split at hd
  · rename_i xs
    cases q : asInts xs with
    | none => rw [q] at hd; cases hd
    | some ns =>
      rw [q] at hd
      injection hd with hd; subst hd
      cases fs with
      | cons f fs =>
        cases fs
        obtain ⟨p, rfl, h1⟩ := fz_ints f q
        refine ⟨p, ns, rfl, .inl (.inl (L1.ex _ _ h1)), fun ns' r hp hs hr => ?_⟩
        rw [PySem.W.eq_sortI hp hs]
        obtain ⟨L2, v2⟩ := L1.newL hr (Fzs.of_ints (PySem.W.sortI ns))
        exact k B1 _ (Ex.refl _) L2 _ v2
  · cases hd
end
section
variable {α : Type} {F : α → D} {l : List (Int × α)} {z : Int} {v : α} {ρ ρ1 ρ2 ρ3 : Env} {i : Nat} {fe fk : M D} {fs : M (List D)}
theorem t_sortI {ns : List Int} (h : fs ρ = .ok [eL D.int ns] ρ1) : mSortI fs ρ = .ok (eL D.int (PySem.W.sortI ns), .tt) ρ1 := by
  unfold mSortI M.bind; rw [h]; unfold eL; dsimp only; rw [asInts_map]; rfl
end
end Dt
namespace Dt
open PySem PySem.Spec PyProof.Rows L2
section
variable {X : Cx} {W : WX} {e o kx : Expr} {es : List Expr} {pos : Pos} {i : Nat} {x : Str} {px : Pos} {K : PySem.W.Frag}
end
section
variable {ρ ρ1 ρ2 ρ3 : Env} {i n : Nat} {α : Type} {F : α → D} {xs : List α} {v v2 : α} {z z2 : Int} {fk fk2 : M D} {d : D}
theorem setI_len {xs : List α} {z : Int} {v : α} : (setI xs z v).length = xs.length := by unfold setI; rw [List.length_set]
end
section
variable {K : PySem.W.Frag} {B H : Hp}
end
section
variable {X : Cx} {W : WX} {e o kx : Expr} {pos : Pos} {i : Nat}
end
end Dt
namespace Dt
open PySem PySem.Spec PyProof.Rows L2
section
variable {ρ ρ0 ρ1 ρ2 ρ3 ρ4 ρ9 : Env} {i : Nat} {α β : Type} {F : α → D} {G : β → D} {xs : List (List α)} {v : α} {z z1 z2 : Int} {fk fk1 fk2 fe : M D} {m : Mk}
end
section
variable {α β : Type} {F : α → D} {G : β → D} {f : M (List D)} {g : D → Env → Option Env} {t : M Bool} {e : M (D × Ob)} {own : List Nat} {ρ ρ0 ρ1 ρ9 : Env} {m : Mk} {o : Ob}
end
abbrev NE := Rat ⊕ Int
def eNE : NE → D
  | .inl q => fq q
  | .inr i => .int i
instance : Inhabited NE := ⟨.inr 0⟩
def neqQ (e : NE) (q : Rat) : Bool := match e with
  | .inl p => !decide (p = q)
  | .inr _ => true
theorem gd_int (z : Int) : gdD (.int z) := ⟨rfl, rfl⟩
theorem gd_fq (q : Rat) : gdD (fq q) := ⟨rfl, rfl⟩
theorem o_neqQ {e : NE} {q : Rat} : dNe (eNE e) (fq q) = some (.bl (neqQ e q)) := by
  cases e with
  | inl p => exact o_ne (F := fq) (x := p) (y := q) gQ
  | inr i => exact dNe_ne (gd_int i) (gd_fq q) (fun h => by cases h)
end Dt
namespace Dt
open PySem PySem.Spec PyProof.Rows L2
section
variable {X : Cx} {W : WX} {e : Expr} {pos : Pos} {i : Nat} {x : Str} {px : Pos}
end
end Dt
namespace Dt
open PySem PySem.Spec PyProof.Rows L2
end Dt
namespace Dt
open PySem PySem.Spec PyProof.Rows L2
instance iLine : DecidableEq Line := inferInstance
instance iStand : DecidableEq Stand := inferInstance
instance iComD : DecidableEq Com := inferInstance
instance iSCD : DecidableEq (List Stand × Com) := @instDecidableEqProd _ _ inferInstance inferInstance
instance iNetD : DecidableEq Net := @instDecidableEqProd (List Line) (List Stand × Com) inferInstance iSCD
end Dt
namespace Dt
open PySem PySem.Spec PyProof.Rows L2
end Dt
namespace Dt
open PySem PySem.Spec PyProof.Rows L2
section
variable {K : PySem.W.Frag} {F : Fr} {ρ : Env} {σ : St} {B H : Hp}
end
end Dt
namespace Look
open PySem L2 Dt Std Net
section
variable {g : Int → List Int} {n : Nat} {S : List Int}
theorem mem_sort {xs : List Int} {x : Int} : x ∈ PySem.W.sortI xs ↔ x ∈ xs := (PySem.W.sortI_perm xs).mem_iff
theorem len_sort {xs : List Int} : (PySem.W.sortI xs).length = xs.length := (PySem.W.sortI_perm xs).length_eq
end
section
variable {net : Net} {n : Nat} {S : List Int}
end
section
variable {net : Net}
end
abbrev Gd (net : Net) : Prop := GoodNet net.1 net.2.1 net.2.2
section
variable {net : Net}
end
end Look
namespace Law
open PySem L2 Dt Std Net Look
theorem smq_div {a b : Int} (h0 : 0 ≤ a) (h1 : a ≤ 1000) (h2 : 0 < b) (h3 : b ≤ 1000) : SmQ (Rat.divInt a b) := by
  refine ⟨?_, ?_, ?_⟩
  · rw [num_div, Int.sign_eq_one_of_pos h2, Int.one_mul]
    exact Int.ediv_nonneg h0 (by omega)
  · rw [num_div, Int.sign_eq_one_of_pos h2, Int.one_mul]
    exact Int.le_trans (Int.ediv_le_self _ h0) h1
  · rw [den_div (by omega)]
    exact Nat.le_trans (Nat.div_le_self _ _) (by omega)
theorem divI_le {a b c : Int} (h : a ≤ b) (hc : 0 < c) : Rat.divInt a c ≤ Rat.divInt b c := by
  rw [Rat.divInt_eq_div, Rat.divInt_eq_div, Rat.div_def, Rat.div_def]
  exact Rat.mul_le_mul_of_nonneg_right (Rat.intCast_le_intCast.mpr h) (Rat.le_of_lt (Rat.inv_pos.mpr (Rat.intCast_pos.mpr hc)))
theorem divI_pos {a b : Int} (ha : 0 < a) (hb : 0 < b) : 0 < Rat.divInt a b := by
  rw [Rat.divInt_eq_div, Rat.div_def]
  exact Rat.mul_pos (Rat.intCast_pos.mpr ha) (Rat.inv_pos.mpr (Rat.intCast_pos.mpr hb))
theorem divI_self {a : Int} (h : 0 < a) : Rat.divInt a a = 1 := by
  rw [Rat.divInt_eq_div, Rat.div_def]
  exact Rat.mul_inv_cancel _ (fun z => by have := Rat.intCast_eq_zero_iff.mp z; omega)
theorem divI_add {a b c : Int} : Rat.divInt a c + Rat.divInt b c = Rat.divInt (a + b) c := by
  rw [Rat.divInt_eq_div, Rat.divInt_eq_div, Rat.divInt_eq_div, Rat.intCast_add]; grind
theorem mkq_one {a : Int} : mkq (a, 1) = (a : Rat) := by
  unfold mkq
  show Rat.divInt a 1 = _
  rw [Rat.divInt_eq_div]; grind
theorem isq_one {a : Int} : IsQ (a, 1) := ⟨Int.one_pos, by simp⟩
theorem sumQ_acc : ∀ (xs : List Rat) (a : Rat), xs.foldl (· + ·) a = a + sumQ xs
  | [], a => by unfold sumQ; simp; grind
  | x :: xs, a => by
    unfold sumQ
    rw [List.foldl_cons, List.foldl_cons, sumQ_acc xs (a + x), sumQ_acc xs (0 + x)]; grind
theorem sumQ_nil : sumQ [] = 0 := rfl
theorem sumQ_cons (x : Rat) (xs : List Rat) : sumQ (x :: xs) = x + sumQ xs := by
  show (x :: xs).foldl (· + ·) 0 = _
  rw [List.foldl_cons, sumQ_acc]; grind
theorem sumQ_div (c : Int) : ∀ ps : List Int, sumQ (ps.map fun p => Rat.divInt p c) = Rat.divInt ps.sum c
  | [] => by simp [sumQ_nil]
  | p :: ps => by rw [List.map_cons, sumQ_cons, sumQ_div c ps, divI_add, List.sum_cons]
theorem strOk_open : PyData.strOk ("open" : Str) = true := by decide +kernel
theorem strOk_shut : PyData.strOk ("shut" : Str) = true := by decide +kernel
theorem okE_net {net : Net} (g : Gd net) : OkE eNet net := by
  have h1 : okD 19 (eL eLine net.1) = true := ok_lines (fun l hl => (g.ln l hl).okS) (by decide)
  have h2 : okD 19 (eL eStand net.2.1) = true := okD_up (by decide) ((gL gStand).ok net.2.1)
  have h3 : okD 19 (eC net.2.2) = true := by
    show (okD 18 (D.str net.2.2.1) && (okD 18 (eNum net.2.2.2) && true)) = true
    rcases g.cm with ⟨e, r, e2, _⟩ | ⟨e, r, e2, _⟩
    · rw [e, e2]
      have := okD_up (show 2 ≤ 18 by decide) ((gL gQ).ok r)
      show (PyData.strOk ("open" : Str) && (okD 18 (eL fq r) && true)) = true
      rw [this, strOk_open]; rfl
    · rw [e, e2]
      have := okD_up (show 1 ≤ 18 by decide) ((gL gI).ok r)
      show (PyData.strOk ("shut" : Str) && (okD 18 (eL D.int r) && true)) = true
      rw [this, strOk_shut]; rfl
  show (okD 19 (eL eLine net.1) && (okD 19 (eL eStand net.2.1) && (okD 19 (eC net.2.2) && true))) = true
  rw [h1, h2, h3]; rfl
theorem lcS_sub {σ : Type} {p : Int → σ → Bool × σ} (xs : List Int) (s : σ) : (lcS p (fun x s => (x, s)) xs s).1.Sublist xs := by
  induction xs generalizing s with
  | nil => exact .slnil
  | cons x r ih =>
    unfold lcS
    cases (p x s).1 with
    | true => exact (ih _).cons_cons _
    | false => exact (ih _).cons _
end Law
namespace DtS
open PySem PyProof.Rows Srt SrtO
section
variable {prog : Program} {w : World} {A : Around} {E : Value → Shared → Prop} {s : Shared}
end
end DtS
namespace Dt
open PySem PySem.Spec PyProof.Rows L2
end Dt
namespace Dt
open PySem PySem.Spec PyProof.Rows L2
def neQ : NE → Rat
  | .inl q => q
  | .inr _ => 0
def neI : NE → Int
  | .inl _ => 0
  | .inr i => i
end Dt
namespace Dt
open PySem PySem.Spec PyProof.Rows L2
def strI (i : Int) : Str := Str.ofString (toString i)
def strOf : D → Option Str
  | .str x => some x
  | _ => none
def strsOf : List D → Option (List Str)
  | [] => some []
  | d :: ds => (strOf d).bind fun x => (strsOf ds).map (x :: ·)
theorem strOf_eq {d : D} {x : Str} (h : strOf d = some x) : d = .str x := by
  cases d with
  | str y => injection h with h; rw [h]
  | _ => cases h
theorem strsOf_eq : ∀ {ds : List D} {xs : List Str}, strsOf ds = some xs → ds = xs.map D.str
  | [], xs, h => by
    injection h with h
    subst h; rfl
  | d :: ds, xs, h => by
    unfold strsOf at h
    cases q : strOf d with
    | none => rw [q] at h; cases h
    | some x =>
      rw [q] at h
      cases q2 : strsOf ds with
      | none => rw [q2] at h; cases h
      | some r =>
        rw [q2] at h
        injection h with h
        subst h
        rw [strOf_eq q, strsOf_eq q2]; rfl
theorem strsOf_map : ∀ xs : List Str, strsOf (xs.map D.str) = some xs
  | [] => rfl
  | x :: xs => by
    rw [List.map_cons]
    unfold strsOf
    rw [strsOf_map xs]; rfl
theorem fz_strs {K : PySem.W.Frag} {B : Hp} : ∀ {xs : List Str} {vs : List V}, Fzs K B vs (xs.map D.str) → vs = xs.map V.str
  | [], _, h => by cases h; rfl
  | x :: xs, _, h => by
    cases h with
    | cons h hs =>
      cases h
      rw [fz_strs hs]; rfl
theorem small_log {i : Int} (h : i.natAbs < 1000000000) : i.natAbs.log2 < 1920 := by
  by_cases z : i.natAbs = 0
  · rw [z]; decide
  · have : i.natAbs.log2 < 30 := (Nat.log2_lt z).mpr (by omega)
    omega
def dStr : List D → Option D
  | [.int i] => if i.natAbs < 1000000000 then some (.str (strI i)) else none
  | _ => none
theorem cd_str {K : PySem.W.Frag} : CallD K (fun xs H Q => ∃ i, xs = [.int i] ∧ i.natAbs.log2 < 1920 ∧ Q (.str (toString i)) H) dStr := by
  intro xs ds d B H Q ex fs h g
  unfold dStr at h
  split at h
  · rename_i i
    split at h
    · rename_i hi
      injection h with h; subst h
      cases fs with
      | cons f1 fs =>
        cases fs
        cases f1
        exact ⟨i, rfl, small_log hi, g.1 _ (.str _)⟩
    · cases h
  · cases h
def dFmt : D → Option D
  | .int i => if i.natAbs < 1000000000 then some (.str (strI i)) else none
  | _ => none
section
variable {X : Cx} {W : WX} {a b c o : Expr} {pos p apos : Pos} {f f1 f2 f3 : M D}
theorem ev_str1 {f : M (List D)} (hm : X.mg "str" = none) (ha : EA X W [a] f) (hg : Gl X "str" := by rfl) (he : starEach (a :: []) X.env = (false, eval a X.env) :: starEach [] X.env := by rfl) : EV X W (.Call (.Name "str" p) [a] [] pos) (mCall dStr f) := ev_callTy call_str_int cd_str hg hm (by decide +kernel) ha (by decide) (by decide) he
theorem ev_fmt (ha : EV X W a f) : EV X W (.FormattedValue a (-1) none pos) (mUn dFmt f) := by
  intro F ρ σ B H Q L P
  refine PE.we (pe_fmt pe_we) ?_
  refine ha F ρ σ B H _ L ((Post.bind P).imp fun d ρ1 B1 H1 e1 L1 P1 x fx => ?_)
  obtain ⟨d', hd, k⟩ := P1.opt
  unfold dFmt at hd
  split at hd
  · rename_i i
    split at hd
    · rename_i hi
      injection hd with hd; subst hd
      cases fx
      exact .inr ⟨i, rfl, small_log hi, k B1 H1 (Ex.refl _) L1 _ (.str _)⟩
    · cases hd
  · cases hd
def mStrC (f : M D) : M Str := M.bind f fun x => M.opt ((strOf x).bind fun s => if s.length ≤ 1000000 then some s else none)
def mJ3 (f1 f2 f3 : M D) : M D := M.bind (mStrC f1) fun x => M.bind (mStrC f2) fun y => M.bind (mStrC f3) fun z => M.pure (.str (((Str.empty ++ x) ++ y) ++ z))
theorem len_app (x y : Str) : (x ++ y).length = x.length + y.length := by
  show (x.cps ++ y.cps).size = _
  rw [Array.size_append]; rfl
theorem st_strC {F : Fr} {ρ : Env} {σ : St} {B H : Hp} {Q : VK} (h : EV X W a f) (L : Lv X.K F ρ σ B H) {G : Str → Env → Hp → Hp → Prop} (P : Post X W F σ B (mStrC f ρ) G) (k : ∀ s ρ1 B1 H1, s.length ≤ 1000000 → Ex B B1 → Lv X.K F ρ1 σ B1 H1 → G s ρ1 B1 H1 → Q (.str s) H1) : we X a σ H Q := by
  refine h F ρ σ B H _ L ((Post.bind P).imp fun d ρ1 B1 H1 e1 L1 P1 x fx => ?_)
  obtain ⟨s, hs, g⟩ := P1.opt
  cases q : strOf d with
  | none => rw [q] at hs; cases hs
  | some t =>
    rw [q] at hs
    have hs' : (if t.length ≤ 1000000 then some t else none) = some s := hs
    split at hs'
    · rename_i hl
      injection hs' with hs'; subst hs'
      have ed := strOf_eq q
      subst ed
      cases fx
      exact k t ρ1 B1 H1 hl e1 L1 (g B1 H1 (Ex.refl _) L1)
    · cases hs'
theorem ev_j3 (ha : EV X W a f1) (hb : EV X W b f2) (hc : EV X W c f3) : EV X W (.JoinedStr [a, b, c] pos) (mJ3 f1 f2 f3) := by
  intro F ρ σ B H Q L P
  refine PE.we (pe_joined (.cons pe_we (.cons pe_we (.cons pe_we .nil)))) ?_
  have z0 : Str.empty.length = 0 := rfl
  refine st_strC ha L (Post.bind P) fun s1 ρ1 B1 H1 l1 e1 L1 P1 => ⟨s1, rfl, by rw [len_app, z0]; exact len_line' (by omega), ?_⟩
  refine st_strC hb L1 (Post.bind P1) fun s2 ρ2 B2 H2 l2 e2 L2 P2 => ⟨s2, rfl, by rw [len_app, len_app, z0]; exact len_line' (by omega), ?_⟩
  refine st_strC hc L2 (Post.bind P2) fun s3 ρ3 B3 H3 l3 e3 L3 P3 => ⟨s3, rfl, by rw [len_app, len_app, len_app, z0]; exact len_line' (by omega), ?_⟩
  exact P3 B3 H3 (Ex.refl _) L3 _ (.str _)
def dJoin (s : Str) : D → Option D
  | .lst ds => (strsOf ds).bind fun xs => if (xs.map (·.length)).sum + xs.length * s.length ≤ 16777216 then some (.str (Txt.join s xs)) else none
  | _ => none
def mJoin (f1 f2 : M D) : M D := M.bind (mStrC f1) fun s => M.bind f2 fun d => M.opt (dJoin s d)
theorem ev_join (ha : EV X W o f1) (hb : EV X W a f2) (hs : starEach [a] X.env = [(false, eval a X.env)] := by exact star_un rfl) (hbase : attributeBase o "join" X.env (eval o X.env) = eval o X.env := by rfl) (hline : (apos.endLine == pos.line) = true := by rfl) : EV X W (.Call (.Attribute o "join" apos) [a] [] pos) (mJoin f1 f2) := by
  intro F ρ σ B H Q L P
  refine PE.we (pe_join pe_we pe_we hs hbase hline) ?_
  refine st_strC ha L (Post.bind P) fun s1 ρ1 B1 H1 l1 e1 L1 P1 => ⟨⟨s1, rfl⟩, ?_⟩
  refine hb F ρ1 σ B1 H1 _ L1 ((Post.bind P1).imp fun d ρ2 B2 H2 e2 L2 P2 x fx => ?_)
  obtain ⟨d', hd, k⟩ := P2.opt
  cases fx with
  | @lst l vs ds hl fs =>
    have hd' : ((strsOf ds).bind fun xs => if (xs.map (·.length)).sum + xs.length * s1.length ≤ 16777216 then some (D.str (Txt.join s1 xs)) else none) = some d' := hd
    cases q : strsOf ds with
    | none => rw [q] at hd'; cases hd'
    | some xs =>
      rw [q] at hd'
      have hd2 : (if (xs.map (·.length)).sum + xs.length * s1.length ≤ 16777216 then some (D.str (Txt.join s1 xs)) else none) = some d' := hd'
      split at hd2
      · rename_i hz
        injection hd2 with hd2; subst hd2
        have ed := strsOf_eq q
        subst ed
        have ev := fz_strs fs
        subst ev
        exact ⟨s1, l, xs, rfl, rfl, .inl (.inl (.inl (L2.ex _ _ hl))), hz, k B2 H2 (Ex.refl _) L2 _ (.str _)⟩
      · cases hd2
  | _ => cases hd
end
section
variable {ρ ρ1 ρ2 ρ3 : Env} {f1 f2 f3 : M D}
theorem o_str {i : Int} (h : -1000000000 < i ∧ i < 1000000000) : dStr [.int i] = some (.str (strI i)) := if_pos (by omega)
theorem o_fmt {i : Int} (h : -1000000000 < i ∧ i < 1000000000) : dFmt (.int i) = some (.str (strI i)) := if_pos (by omega)
theorem t_strC {s : Str} {f : M D} (h : f ρ = .ok (.str s) ρ1) (hl : s.length ≤ 1000000) : mStrC f ρ = .ok s ρ1 := by
  unfold mStrC M.bind
  rw [h]
  dsimp only
  show M.opt (if s.length ≤ 1000000 then some s else none) ρ1 = _
  rw [if_pos hl]; rfl
theorem empty_app (x : Str) : Str.empty ++ x = x := by
  show Str.mk (#[] ++ x.cps) = x
  rw [Array.empty_append]
theorem t_j3 {x y z : Str} (h1 : f1 ρ = .ok (.str x) ρ1) (h2 : f2 ρ1 = .ok (.str y) ρ2) (h3 : f3 ρ2 = .ok (.str z) ρ3) (hl : x.length ≤ 1000000 ∧ y.length ≤ 1000000 ∧ z.length ≤ 1000000) : mJ3 f1 f2 f3 ρ = .ok (.str (x ++ y ++ z)) ρ3 := by
  unfold mJ3 M.bind
  rw [t_strC h1 hl.1]
  dsimp only
  rw [t_strC h2 hl.2.1]
  dsimp only
  rw [t_strC h3 hl.2.2, empty_app]
  rfl
theorem t_join {s : Str} {xs : List Str} (h1 : f1 ρ = .ok (.str s) ρ1) (h2 : f2 ρ1 = .ok (eL D.str xs) ρ2) (hl : s.length ≤ 1000000 ∧ (xs.map (·.length)).sum + xs.length * s.length ≤ 16777216) : mJoin f1 f2 ρ = .ok (.str (Txt.join s xs)) ρ2 := by
  unfold mJoin M.bind
  rw [t_strC h1 hl.1]
  dsimp only
  rw [h2]
  dsimp only
  show M.opt ((strsOf (xs.map D.str)).bind fun xs => if (xs.map (·.length)).sum + xs.length * s.length ≤ 16777216 then some (D.str (Txt.join s xs)) else none) ρ2 = _
  rw [strsOf_map]
  show M.opt (if (xs.map (·.length)).sum + xs.length * s.length ≤ 16777216 then some (D.str (Txt.join s xs)) else none) ρ2 = _
  rw [if_pos hl.2]; rfl
end
def numNE : Num → List NE
  | .inl r => r.map .inl
  | .inr n => n.map .inr
theorem cNEQ {f : M D} {ρ ρ1 : Env} {x : NE} (h : f ρ = .ok (eNE x) ρ1) (k : x.isLeft = true) : f ρ = .ok (fq (neQ x)) ρ1 := by
  cases x with
  | inl q => exact h
  | inr n => cases k
theorem cNEI {f : M D} {ρ ρ1 : Env} {x : NE} (h : f ρ = .ok (eNE x) ρ1) (k : x.isRight = true) : f ρ = .ok (.int (neI x)) ρ1 := by
  cases x with
  | inl q => cases k
  | inr n => exact h
theorem cNumNE {f : M D} {ρ ρ1 : Env} {x : Num} (h : f ρ = .ok (eNum x) ρ1) : f ρ = .ok (eL eNE (numNE x)) ρ1 := by
  cases x with
  | inl r =>
    refine h.trans ?_
    show Rs.ok (D.lst (r.map fq)) ρ1 = .ok (D.lst ((r.map Sum.inl).map eNE)) ρ1
    rw [List.map_map]; rfl
  | inr n =>
    refine h.trans ?_
    show Rs.ok (D.lst (n.map D.int)) ρ1 = .ok (D.lst ((n.map Sum.inr).map eNE)) ρ1
    rw [List.map_map]; rfl
end Dt
namespace Tex
open PySem PySem.Spec PyProof.Rows L2 Dt
noncomputable def fb_fraction_text : M Fl :=
  mSeq (mAsg (gT 2 (gsC (gN 1) (gsC (gN 2) gsN))) (mVar 0))
    (mSeq (mIf (mTest (mBin dEq (mVar 2) (M.pure (.int 1)))) (mRet (mOf (mCall dStr (mCons (mVar 1) mNil)))) mNx)
    (mRet (mOf (mJ3 (mUn dFmt (mVar 1)) (M.pure (.str "/")) (mUn dFmt (mVar 2))))))
noncomputable def fn_fraction_text : List D → Rf := runF none 3 fb_fraction_text
noncomputable def t_fraction_text (v_one : Rat) : Str :=
  bd v_one (fun (z1 : Rat) => cond (decide ((z1.den : Int) = (1 : Int))) (strI z1.num) ((strI z1.num) ++ ("/" : Str) ++ (strI ((z1.den : Int)))))
def s_fraction_text (v_one : Rat) : Prop :=
  bd v_one (fun (z1 : Rat) => (((decide ((z1.den : Int) = (1 : Int))) = true → (-1000000000 < z1.num ∧ z1.num < 1000000000)) ∧ ((decide ((z1.den : Int) = (1 : Int))) = false → ((-1000000000 < z1.num ∧ z1.num < 1000000000) ∧ (-1000000000 < ((z1.den : Int)) ∧ ((z1.den : Int)) < 1000000000) ∧ (((strI z1.num)).length ≤ 1000000 ∧ (("/" : Str)).length ≤ 1000000 ∧ ((strI ((z1.den : Int)))).length ≤ 1000000)))))
theorem e_fraction_text {v_one : Rat} (h : s_fraction_text v_one) : fn_fraction_text [fq v_one] = .ok (D.str (t_fraction_text v_one)) .ff .non := by
  refine run0 (F := D.str) (o := .ff) (fb := fb_fraction_text) (x := t_fraction_text v_one) ?_
  show JR D.str .ff (fb_fraction_text [zQ v_one, .un, .un]) _
  delta fb_fraction_text t_fraction_text
  delta s_fraction_text at h
  exact sqB (ctx := fun (z1 : Rat) => [zQ v_one, zI z1.num, .fz (D.int ((z1.den : Int)))]) (sAsg (vf 0 rfl) rfl) h (fun z1 h => sqIf (tst (b2 (vf 2 rfl) rfl dEq_i)) (fun hc => bdh (h.1 hc) (fun h => sqRet (mof (c1 (a1 (vf 1 rfl) a0) (o_str h))) (jr_mk rfl))) (fun hc => bdh (h.2 hc) (fun h => sq rfl (sRet (mof (t_j3 (x := (strI z1.num)) (y := ("/" : Str)) (z := (strI ((z1.den : Int)))) (u1 (vf 1 rfl) (o_fmt h.1)) rfl (u1 (vf 2 rfl) (o_fmt h.2.1)) h.2.2)) (jr_mk rfl)))))
noncomputable def fb_line_row : M Fl :=
  mSeq (mAsg (gT 4 (gsC (gN 2) (gsC (gN 3) (gsC (gN 4) (gsC (gN 5) gsN))))) (mVar 0))
    (mSeq (mSet 1 (mOf (mBin dAdd (mFz (mLst (mCons (M.pure (.str "line")) (mCons (M.pure (.str "speeds")) mNil)))) (mFz (mLc [6] (mIter (mVar 2)) (gN 6) (M.pure true) (mFz (mCallN 1 none fn_fraction_text (xV (mVar 6) xNil))))))))
    (mSeq (mIf (mTest (mBin dNe (mVar 3) (M.pure (.tup [(.int 0), (.int 1)])))) (mSeq (mSet 1 (mOf (mBin dAdd (mVar 1) (mFz (mLst (mCons (M.pure (.str "more")) (mCons (mFz (mCallN 1 none fn_fraction_text (xV (mVar 3) xNil))) mNil)))))))
    mNx) mNx)
    (mSeq (mIf (mTest (mBin dGt (mVar 4) (M.pure (.int 0)))) (mSeq (mSet 1 (mOf (mBin dAdd (mVar 1) (mFz (mLst (mCons (M.pure (.str "room")) (mCons (mCall dStr (mCons (mVar 4) mNil)) (mCons (mVar 5) mNil))))))))
    mNx) mNx)
    (mRet (mOf (mJoin (M.pure (.str " ")) (mVar 1)))))))
noncomputable def fn_line_row : List D → Rf := runF none 7 fb_line_row
noncomputable def t_line_row (v_line : Line) : Str :=
  bd v_line (fun (z1 : Line) => bd (([("line" : Str), ("speeds" : Str)] : List Str) ++ (z1.1.map (fun (xv2 : Rat) => (t_fraction_text xv2)))) (fun (v_words_5 : (List Str)) => bd (cond (!decide (z1.2.1 = (0 : Rat))) (bd (v_words_5 ++ ([("more" : Str), (t_fraction_text z1.2.1)] : List Str)) (fun (v_words_7 : (List Str)) => v_words_7)) v_words_5) (fun (z9 : ((List Str))) => bd (cond (decide ((0 : Int) < z1.2.2.1)) (bd (z9 ++ ([("room" : Str), (strI z1.2.2.1), z1.2.2.2] : List Str)) (fun (v_words_11 : (List Str)) => v_words_11)) z9) (fun (z13 : ((List Str))) => (Txt.join (" " : Str) z13)))))
def s_line_row (v_line : Line) : Prop :=
  bd v_line (fun (z1 : Line) => ((∀ xv2 ∈ z1.1, ((s_fraction_text xv2))) ∧ (z1.1.length ≤ 10000) ∧ ((([("line" : Str), ("speeds" : Str)] : List Str)).length + ((z1.1.map (fun (xv2 : Rat) => (t_fraction_text xv2)))).length ≤ 10000) ∧ (bd (([("line" : Str), ("speeds" : Str)] : List Str) ++ (z1.1.map (fun (xv2 : Rat) => (t_fraction_text xv2)))) (fun (v_words_5 : (List Str)) => (((!decide (z1.2.1 = (0 : Rat))) = true → ((s_fraction_text z1.2.1) ∧ (v_words_5.length + (([("more" : Str), (t_fraction_text z1.2.1)] : List Str)).length ≤ 10000))) ∧ (bd (cond (!decide (z1.2.1 = (0 : Rat))) (bd (v_words_5 ++ ([("more" : Str), (t_fraction_text z1.2.1)] : List Str)) (fun (v_words_7 : (List Str)) => v_words_7)) v_words_5) (fun (z9 : ((List Str))) => (((decide ((0 : Int) < z1.2.2.1)) = true → ((-1000000000 < z1.2.2.1 ∧ z1.2.2.1 < 1000000000) ∧ (z9.length + (([("room" : Str), (strI z1.2.2.1), z1.2.2.2] : List Str)).length ≤ 10000))) ∧ (bd (cond (decide ((0 : Int) < z1.2.2.1)) (bd (z9 ++ ([("room" : Str), (strI z1.2.2.1), z1.2.2.2] : List Str)) (fun (v_words_11 : (List Str)) => v_words_11)) z9) (fun (z13 : ((List Str))) => (((" " : Str)).length ≤ 1000000 ∧ ((z13.map fun s => s.length).sum + z13.length * ((" " : Str)).length ≤ 16777216))))))))))))
theorem e_line_row {v_line : Line} (h : s_line_row v_line) : fn_line_row [eLine v_line] = .ok (D.str (t_line_row v_line)) .ff .non := by
  refine run0 (F := D.str) (o := .ff) (fb := fb_line_row) (x := t_line_row v_line) ?_
  show JR D.str .ff (fb_line_row [.fz (eLine v_line), .un, .un, .un, .un, .un, .un]) _
  delta fb_line_row t_line_row
  delta s_line_row at h
  exact sqB (ctx := fun (z1 : Line) => [.fz (eLine v_line), .un, zL z1.1, zQ z1.2.1, zI z1.2.2.1, .fz (D.str z1.2.2.2), .un]) (sAsg (vf 0 rfl) rfl) h (fun z1 h => sqB (ctx := fun (v_words_5 : (List Str)) => [.fz (eLine v_line), .fz ((eL D.str) v_words_5), zL z1.1, zQ z1.2.1, zI z1.2.2.1, .fz (D.str z1.2.2.2), .un]) (sSet (mof (b2 (mfz (mlst (a1 rfl (a1 rfl a0)))) (mfz (lcM (F := fq) (G := D.str) (φ := fun (xv2 : Rat) => (t_fraction_text xv2)) (ρ1 := [.fz (eLine v_line), .un, zL z1.1, zQ z1.2.1, zI z1.2.2.1, .fz (D.str z1.2.2.2), .un]) (i_L (F := fq) (vf 2 rfl)) rfl (fun xv2 hx3 => ⟨_, rfl, rfl, _, mfz (cN (x1 (vf 6 rfl) x0) rfl rfl (e_fraction_text (v_one := xv2) (h.1 xv2 hx3) :) rfl), rfl⟩) h.2.1 rfl)) (o_addL (F := D.str) (xs := ([("line" : Str), ("speeds" : Str)] : List Str)) (ys := (z1.1.map (fun (xv2 : Rat) => (t_fraction_text xv2)))) h.2.2.1))) rfl) h.2.2.2 (fun v_words_5 h => sqB (ctx := fun (z9 : ((List Str))) => [.fz (eLine v_line), .fz ((eL D.str) z9), zL z1.1, zQ z1.2.1, zI z1.2.2.1, .fz (D.str z1.2.2.2), .un]) (ifJ (ctx := fun (z8 : ((List Str))) => [.fz (eLine v_line), .fz ((eL D.str) z8), zL z1.1, zQ z1.2.1, zI z1.2.2.1, .fz (D.str z1.2.2.2), .un]) (v := bd (v_words_5 ++ ([("more" : Str), (t_fraction_text z1.2.1)] : List Str)) (fun (v_words_7 : (List Str)) => v_words_7)) (w := v_words_5) (tst (b2 (vf 3 rfl) rfl ((o_ne (F := fq) (x := z1.2.1) (y := (0 : Rat)) gQ)))) (fun hc => (bdh (h.1 hc) (fun h => jnE (ctx := fun (z8 : ((List Str))) => [.fz (eLine v_line), .fz ((eL D.str) z8), zL z1.1, zQ z1.2.1, zI z1.2.2.1, .fz (D.str z1.2.2.2), .un]) (s := bd (v_words_5 ++ ([("more" : Str), (t_fraction_text z1.2.1)] : List Str)) (fun (v_words_7 : (List Str)) => v_words_7)) (sqB (ctx := fun (v_words_7 : (List Str)) => [.fz (eLine v_line), .fz ((eL D.str) v_words_7), zL z1.1, zQ z1.2.1, zI z1.2.2.1, .fz (D.str z1.2.2.2), .un]) (S := fun _ => True) (sSet (mof (b2 (vf 1 rfl) (mfz (mlst (a1 rfl (a1 (mfz (cN (x1 (vf 3 rfl) x0) rfl rfl (e_fraction_text (v_one := z1.2.1) h.1 :) rfl)) a0)))) (o_addL (F := D.str) (xs := v_words_5) (ys := ([("more" : Str), (t_fraction_text z1.2.1)] : List Str)) h.2))) rfl) trivial (fun v_words_7 _ => rfl))))) (fun _ => jnE (ctx := fun (z8 : ((List Str))) => [.fz (eLine v_line), .fz ((eL D.str) z8), zL z1.1, zQ z1.2.1, zI z1.2.2.1, .fz (D.str z1.2.2.2), .un]) (s := v_words_5) rfl)) h.2 (fun z9 h => sqB (ctx := fun (z13 : ((List Str))) => [.fz (eLine v_line), .fz ((eL D.str) z13), zL z1.1, zQ z1.2.1, zI z1.2.2.1, .fz (D.str z1.2.2.2), .un]) (ifJ (ctx := fun (z12 : ((List Str))) => [.fz (eLine v_line), .fz ((eL D.str) z12), zL z1.1, zQ z1.2.1, zI z1.2.2.1, .fz (D.str z1.2.2.2), .un]) (v := bd (z9 ++ ([("room" : Str), (strI z1.2.2.1), z1.2.2.2] : List Str)) (fun (v_words_11 : (List Str)) => v_words_11)) (w := z9) (tst (b2 (vf 4 rfl) rfl rfl)) (fun hc => (bdh (h.1 hc) (fun h => jnE (ctx := fun (z12 : ((List Str))) => [.fz (eLine v_line), .fz ((eL D.str) z12), zL z1.1, zQ z1.2.1, zI z1.2.2.1, .fz (D.str z1.2.2.2), .un]) (s := bd (z9 ++ ([("room" : Str), (strI z1.2.2.1), z1.2.2.2] : List Str)) (fun (v_words_11 : (List Str)) => v_words_11)) (sqB (ctx := fun (v_words_11 : (List Str)) => [.fz (eLine v_line), .fz ((eL D.str) v_words_11), zL z1.1, zQ z1.2.1, zI z1.2.2.1, .fz (D.str z1.2.2.2), .un]) (S := fun _ => True) (sSet (mof (b2 (vf 1 rfl) (mfz (mlst (a1 rfl (a1 (c1 (a1 (vf 4 rfl) a0) (o_str h.1)) (a1 (vf 5 rfl) a0))))) (o_addL (F := D.str) (xs := z9) (ys := ([("room" : Str), (strI z1.2.2.1), z1.2.2.2] : List Str)) h.2))) rfl) trivial (fun v_words_11 _ => rfl))))) (fun _ => jnE (ctx := fun (z12 : ((List Str))) => [.fz (eLine v_line), .fz ((eL D.str) z12), zL z1.1, zQ z1.2.1, zI z1.2.2.1, .fz (D.str z1.2.2.2), .un]) (s := z9) rfl)) h.2 (fun z13 h => sRet (mof (t_join (s := (" " : Str)) (xs := z13) rfl (vf 1 rfl) h)) (jr_mk rfl)))))
noncomputable def fb_comer_words : M Fl :=
  mSeq (mIf (mAnd (mTest (mBin dEq (mVar 0) (M.pure (.str "open")))) (mTest (mBin dNe (mVar 1) (M.pure (.tup [(.int 0), (.int 1)]))))) (mRet (mLst (mCons (M.pure (.str "comes")) (mCons (mFz (mCallN 1 none fn_fraction_text (xV (mVar 1) xNil))) mNil)))) mNx)
    (mSeq (mIf (mAnd (mTest (mBin dEq (mVar 0) (M.pure (.str "shut")))) (mTest (mBin dGt (mVar 1) (M.pure (.int 0))))) (mRet (mLst (mCons (M.pure (.str "begins")) (mCons (mCall dStr (mCons (mVar 1) mNil)) mNil)))) mNx)
    (mRet (mLst mNil)))
noncomputable def fn_comer_words : List D → Rf := runF none 2 fb_comer_words
noncomputable def t_comer_words (v_kind : Str) (v_number : NE) : (List Str) :=
  cond ((decide (v_kind = ("open" : Str))) && (neqQ v_number ((0 : Rat)))) ([("comes" : Str), (t_fraction_text ((neQ v_number)))] : List Str) (cond ((decide (v_kind = ("shut" : Str))) && (decide ((0 : Int) < (neI v_number)))) ([("begins" : Str), (strI ((neI v_number)))] : List Str) ([] : List Str))
def s_comer_words (v_kind : Str) (v_number : NE) : Prop :=
  ((((decide (v_kind = ("open" : Str))) && (neqQ v_number ((0 : Rat)))) = true → ((v_number.isLeft = true) ∧ (s_fraction_text ((neQ v_number))))) ∧ (((decide (v_kind = ("open" : Str))) && (neqQ v_number ((0 : Rat)))) = false → (((decide (v_kind = ("shut" : Str))) = true → (v_number.isRight = true)) ∧ (((decide (v_kind = ("shut" : Str))) && (decide ((0 : Int) < (neI v_number)))) = true → ((v_number.isRight = true) ∧ (-1000000000 < ((neI v_number)) ∧ ((neI v_number)) < 1000000000))))))
theorem e_comer_words {v_kind : Str} {v_number : NE} (h : s_comer_words v_kind v_number) : fn_comer_words [D.str v_kind, eNE v_number] = .ok ((eL D.str) (t_comer_words v_kind v_number)) .tt .non := by
  refine run0 (F := (eL D.str)) (o := .tt) (fb := fb_comer_words) (x := t_comer_words v_kind v_number) ?_
  show JR (eL D.str) .tt (fb_comer_words [.fz (D.str v_kind), .fz (eNE v_number)]) _
  delta fb_comer_words t_comer_words
  delta s_comer_words at h
  exact sqIf (an (tst (b2 (vf 0 rfl) rfl dEq_s)) (fun hc1 => tst (b2 (vf 1 rfl) rfl (o_neqQ (e := v_number) (q := (0 : Rat)))))) (fun hc => bdh (h.1 hc) (fun h => sqRet (mlst (a1 rfl (a1 (mfz (cN (x1 ((cNEQ (vf 1 rfl) h.1)) x0) rfl rfl (e_fraction_text (v_one := (neQ v_number)) h.2 :) rfl)) a0))) (jr_mk rfl))) (fun hc => bdh (h.2 hc) (fun h => sq rfl (sqIf (an (tst (b2 (vf 0 rfl) rfl dEq_s)) (fun hc2 => tst (b2 ((cNEI (vf 1 rfl) (h.1 hc2))) rfl rfl))) (fun hc => bdh (h.2 hc) (fun h => sqRet (mlst (a1 rfl (a1 (c1 (a1 ((cNEI (vf 1 rfl) h.1)) a0) (o_str h.2)) a0))) (jr_mk rfl))) (fun _ => sq rfl (sRet (mlst a0) (jr_mk rfl))))))
noncomputable def fb_stand_row : M Fl :=
  mSeq (mAsg (gT 3 (gsC (gN 4) (gsC (gN 5) (gsC (gN 6) gsN)))) (mVar 0))
    (mSeq (mSet 3 (mOf (mBin dAdd (mFz (mLst (mCons (M.pure (.str "stand")) (mCons (mCall dStr (mCons (mVar 4) mNil)) (mCons (M.pure (.str "rate")) (mCons (mFz (mCallN 1 none fn_fraction_text (xV (mVar 5) xNil))) mNil)))))) (mFz (mCallN 2 none fn_comer_words (xV (mVar 1) (xV (mVar 2) xNil)))))))
    (mSeq (mFor (mIter (mVar 6)) (gT 2 (gsC (gN 7) (gsC (gN 8) gsN))) (mSeq (mSet 3 (mOf (mBin dAdd (mVar 3) (mFz (mLst (mCons (M.pure (.str "to")) (mCons (mCall dStr (mCons (mVar 7) mNil)) (mCons (mFz (mCallN 1 none fn_fraction_text (xV (mVar 8) xNil))) mNil))))))))
    (mSeq (mKill [7, 8]) mNx)))
    (mRet (mOf (mJoin (M.pure (.str " ")) (mVar 3))))))
noncomputable def fn_stand_row : List D → Rf := runF none 9 fb_stand_row
noncomputable def t_stand_row (v_stand : Stand) (v_kind : Str) (v_number : NE) : Str :=
  bd v_stand (fun (z1 : Stand) => bd (([("stand" : Str), (strI z1.1), ("rate" : Str), (t_fraction_text z1.2.1)] : List Str) ++ (t_comer_words v_kind v_number)) (fun (v_words_2 : (List Str)) => bd (z1.2.2.foldl (fun (z3 : ((List Str))) (xv4 : Way) => bd (z3 ++ ([("to" : Str), (strI xv4.1), (t_fraction_text xv4.2)] : List Str)) (fun (v_words_5 : (List Str)) => v_words_5)) v_words_2) (fun (z6 : ((List Str))) => (Txt.join (" " : Str) z6))))
def s_stand_row (v_stand : Stand) (v_kind : Str) (v_number : NE) : Prop :=
  bd v_stand (fun (z1 : Stand) => ((-1000000000 < z1.1 ∧ z1.1 < 1000000000) ∧ (s_fraction_text z1.2.1) ∧ (s_comer_words v_kind v_number) ∧ ((([("stand" : Str), (strI z1.1), ("rate" : Str), (t_fraction_text z1.2.1)] : List Str)).length + ((t_comer_words v_kind v_number)).length ≤ 10000) ∧ (bd (([("stand" : Str), (strI z1.1), ("rate" : Str), (t_fraction_text z1.2.1)] : List Str) ++ (t_comer_words v_kind v_number)) (fun (v_words_2 : (List Str)) => ((sfl (fun (z3 : ((List Str))) (xv4 : Way) => bd (z3 ++ ([("to" : Str), (strI xv4.1), (t_fraction_text xv4.2)] : List Str)) (fun (v_words_5 : (List Str)) => v_words_5)) (fun (z3 : ((List Str))) (xv4 : Way) => ((-1000000000 < xv4.1 ∧ xv4.1 < 1000000000) ∧ (s_fraction_text xv4.2) ∧ (z3.length + (([("to" : Str), (strI xv4.1), (t_fraction_text xv4.2)] : List Str)).length ≤ 10000))) z1.2.2 v_words_2) ∧ (bd (z1.2.2.foldl (fun (z3 : ((List Str))) (xv4 : Way) => bd (z3 ++ ([("to" : Str), (strI xv4.1), (t_fraction_text xv4.2)] : List Str)) (fun (v_words_5 : (List Str)) => v_words_5)) v_words_2) (fun (z6 : ((List Str))) => (((" " : Str)).length ≤ 1000000 ∧ ((z6.map fun s => s.length).sum + z6.length * ((" " : Str)).length ≤ 16777216)))))))))
theorem e_stand_row {v_stand : Stand} {v_kind : Str} {v_number : NE} (h : s_stand_row v_stand v_kind v_number) : fn_stand_row [eStand v_stand, D.str v_kind, eNE v_number] = .ok (D.str (t_stand_row v_stand v_kind v_number)) .ff .non := by
  refine run0 (F := D.str) (o := .ff) (fb := fb_stand_row) (x := t_stand_row v_stand v_kind v_number) ?_
  show JR D.str .ff (fb_stand_row [.fz (eStand v_stand), .fz (D.str v_kind), .fz (eNE v_number), .un, .un, .un, .un, .un, .un]) _
  delta fb_stand_row t_stand_row
  delta s_stand_row at h
  exact sqB (ctx := fun (z1 : Stand) => [.fz (eStand v_stand), .fz (D.str v_kind), .fz (eNE v_number), .un, zI z1.1, zQ z1.2.1, .fz ((eL eWay) z1.2.2), .un, .un]) (sAsg (vf 0 rfl) rfl) h (fun z1 h => sqB (ctx := fun (v_words_2 : (List Str)) => [.fz (eStand v_stand), .fz (D.str v_kind), .fz (eNE v_number), .fz ((eL D.str) v_words_2), zI z1.1, zQ z1.2.1, .fz ((eL eWay) z1.2.2), .un, .un]) (sSet (mof (b2 (mfz (mlst (a1 rfl (a1 (c1 (a1 (vf 4 rfl) a0) (o_str h.1)) (a1 rfl (a1 (mfz (cN (x1 (vf 5 rfl) x0) rfl rfl (e_fraction_text (v_one := z1.2.1) h.2.1 :) rfl)) a0)))))) (mfz (cN (x1 (vf 1 rfl) (x1 (vf 2 rfl) x0)) rfl rfl (e_comer_words (v_kind := v_kind) (v_number := v_number) h.2.2.1 :) rfl)) (o_addL (F := D.str) (xs := ([("stand" : Str), (strI z1.1), ("rate" : Str), (t_fraction_text z1.2.1)] : List Str)) (ys := (t_comer_words v_kind v_number)) h.2.2.2.1))) rfl) h.2.2.2.2 (fun v_words_2 h => sqB (ctx := fun (z6 : ((List Str))) => [.fz (eStand v_stand), .fz (D.str v_kind), .fz (eNE v_number), .fz ((eL D.str) z6), zI z1.1, zQ z1.2.1, .fz ((eL eWay) z1.2.2), .un, .un]) (forN (F := eWay) (ctx := fun (z3 : ((List Str))) => [.fz (eStand v_stand), .fz (D.str v_kind), .fz (eNE v_number), .fz ((eL D.str) z3), zI z1.1, zQ z1.2.1, .fz ((eL eWay) z1.2.2), .un, .un]) (i_L (F := eWay) (vf 6 rfl)) h.1 (fun z3 xv4 h => ⟨_, rfl, sqB (ctx := fun (v_words_5 : (List Str)) => [.fz (eStand v_stand), .fz (D.str v_kind), .fz (eNE v_number), .fz ((eL D.str) v_words_5), zI z1.1, zQ z1.2.1, .fz ((eL eWay) z1.2.2), zI xv4.1, zQ xv4.2]) (S := fun _ => True) (sSet (mof (b2 (vf 3 rfl) (mfz (mlst (a1 rfl (a1 (c1 (a1 (vf 7 rfl) a0) (o_str h.1)) (a1 (mfz (cN (x1 (vf 8 rfl) x0) rfl rfl (e_fraction_text (v_one := xv4.2) h.2.1 :) rfl)) a0))))) (o_addL (F := D.str) (xs := z3) (ys := ([("to" : Str), (strI xv4.1), (t_fraction_text xv4.2)] : List Str)) h.2.2))) rfl) trivial (fun v_words_5 _ => sq (sKill (show _ = [.fz (eStand v_stand), .fz (D.str v_kind), .fz (eNE v_number), .fz ((eL D.str) v_words_5), zI z1.1, zQ z1.2.1, .fz ((eL eWay) z1.2.2), .un, .un] from rfl)) rfl)⟩)) h.2 (fun z6 h => sRet (mof (t_join (s := (" " : Str)) (xs := z6) rfl (vf 3 rfl) h)) (jr_mk rfl))))
noncomputable def fb_net_rows : M Fl :=
  mSeq (mAsg (gT 3 (gsC (gN 2) (gsC (gN 3) (gsC (gT 2 (gsC (gN 4) (gsC (gN 5) gsN))) gsN)))) (mVar 0))
    (mSeq (mSet 1 (mOf (mBin dAdd (mFz (mLst (mCons (mVar 4) mNil))) (mFz (mLc [6] (mIter (mVar 2)) (gN 6) (M.pure true) (mFz (mCallN 1 none fn_line_row (xV (mVar 6) xNil))))))))
    (mRet (mOf (mBin dAdd (mVar 1) (mFz (mLc [7, 8] (mZip (mCons (mVar 3) (mCons (mVar 5) mNil))) (gT 2 (gsC (gN 7) (gsC (gN 8) gsN))) (M.pure true) (mFz (mCallN 3 none fn_stand_row (xV (mVar 7) (xV (mVar 4) (xV (mVar 8) xNil)))))))))))
noncomputable def fn_net_rows : List D → Rf := runF none 9 fb_net_rows
noncomputable def t_net_rows (v_net : Net) : (List Str) :=
  bd v_net (fun (z1 : Net) => bd (([z1.2.2.1] : List Str) ++ (z1.1.map (fun (xv2 : Line) => (t_line_row xv2)))) (fun (v_rows_5 : (List Str)) => (v_rows_5 ++ ((z1.2.1.zip ((numNE z1.2.2.2))).map (fun (xv6 : (Stand × NE)) => (t_stand_row xv6.1 z1.2.2.1 xv6.2))))))
def s_net_rows (v_net : Net) : Prop :=
  bd v_net (fun (z1 : Net) => ((∀ xv2 ∈ z1.1, ((s_line_row xv2))) ∧ (z1.1.length ≤ 10000) ∧ ((([z1.2.2.1] : List Str)).length + ((z1.1.map (fun (xv2 : Line) => (t_line_row xv2)))).length ≤ 10000) ∧ (bd (([z1.2.2.1] : List Str) ++ (z1.1.map (fun (xv2 : Line) => (t_line_row xv2)))) (fun (v_rows_5 : (List Str)) => ((∀ xv6 ∈ (z1.2.1.zip ((numNE z1.2.2.2))), ((s_stand_row xv6.1 z1.2.2.1 xv6.2))) ∧ (((z1.2.1.zip ((numNE z1.2.2.2)))).length ≤ 10000) ∧ (v_rows_5.length + (((z1.2.1.zip ((numNE z1.2.2.2))).map (fun (xv6 : (Stand × NE)) => (t_stand_row xv6.1 z1.2.2.1 xv6.2)))).length ≤ 10000))))))
theorem e_net_rows {v_net : Net} (h : s_net_rows v_net) : fn_net_rows [eNet v_net] = .ok ((eL D.str) (t_net_rows v_net)) .ff .non := by
  refine run0 (F := (eL D.str)) (o := .ff) (fb := fb_net_rows) (x := t_net_rows v_net) ?_
  show JR (eL D.str) .ff (fb_net_rows [.fz (eNet v_net), .un, .un, .un, .un, .un, .un, .un, .un]) _
  delta fb_net_rows t_net_rows
  delta s_net_rows at h
  exact sqB (ctx := fun (z1 : Net) => [.fz (eNet v_net), .un, .fz ((eL eLine) z1.1), .fz ((eL eStand) z1.2.1), .fz (D.str z1.2.2.1), .fz (eNum z1.2.2.2), .un, .un, .un]) (sAsg (vf 0 rfl) rfl) h (fun z1 h => sqB (ctx := fun (v_rows_5 : (List Str)) => [.fz (eNet v_net), .fz ((eL D.str) v_rows_5), .fz ((eL eLine) z1.1), .fz ((eL eStand) z1.2.1), .fz (D.str z1.2.2.1), .fz (eNum z1.2.2.2), .un, .un, .un]) (sSet (mof (b2 (mfz (mlst (a1 (vf 4 rfl) a0))) (mfz (lcM (F := eLine) (G := D.str) (φ := fun (xv2 : Line) => (t_line_row xv2)) (ρ1 := [.fz (eNet v_net), .un, .fz ((eL eLine) z1.1), .fz ((eL eStand) z1.2.1), .fz (D.str z1.2.2.1), .fz (eNum z1.2.2.2), .un, .un, .un]) (i_L (F := eLine) (vf 2 rfl)) rfl (fun xv2 hx3 => ⟨_, rfl, rfl, _, mfz (cN (x1 (vf 6 rfl) x0) rfl rfl (e_line_row (v_line := xv2) (h.1 xv2 hx3) :) rfl), rfl⟩) h.2.1 rfl)) (o_addL (F := D.str) (xs := ([z1.2.2.1] : List Str)) (ys := (z1.1.map (fun (xv2 : Line) => (t_line_row xv2)))) h.2.2.1))) rfl) h.2.2.2 (fun v_rows_5 h => sRet (mof (b2 (vf 1 rfl) (mfz (lcM (F := (eT2 eStand eNE)) (G := D.str) (φ := fun (xv6 : (Stand × NE)) => (t_stand_row xv6.1 z1.2.2.1 xv6.2)) (ρ1 := [.fz (eNet v_net), .fz ((eL D.str) v_rows_5), .fz ((eL eLine) z1.1), .fz ((eL eStand) z1.2.1), .fz (D.str z1.2.2.1), .fz (eNum z1.2.2.2), .un, .un, .un]) (i_zip (F := eStand) (G := eNE) (a1 (vf 3 rfl) (a1 ((cNumNE (vf 5 rfl))) a0))) rfl (fun xv6 hx7 => ⟨_, rfl, rfl, _, mfz (cN (x1 (vf 7 rfl) (x1 (vf 4 rfl) (x1 (vf 8 rfl) x0))) rfl rfl (e_stand_row (v_stand := xv6.1) (v_kind := z1.2.2.1) (v_number := xv6.2) (h.1 xv6 hx7) :) rfl), rfl⟩) h.2.1 rfl)) (o_addL (F := D.str) (xs := v_rows_5) (ys := ((z1.2.1.zip ((numNE z1.2.2.2))).map (fun (xv6 : (Stand × NE)) => (t_stand_row xv6.1 z1.2.2.1 xv6.2)))) h.2.2))) (jr_mk rfl)))
noncomputable def fb_net_text : M Fl :=
  mRet (mOf (mJoin (M.pure (.str "")) (mFz (mLc [1] (mIter (mFz (mCallN 1 none fn_net_rows (xV (mVar 0) xNil)))) (gN 1) (M.pure true) (mBin dAdd (mVar 1) (M.pure (.str "\n")))))))
noncomputable def fn_net_text : List D → Rf := runF none 2 fb_net_text
noncomputable def t_net_text (v_net : Net) : Str :=
  (Txt.join ("" : Str) (((t_net_rows v_net).map (fun (xv1 : Str) => (xv1 ++ ("\n" : Str))))))
def s_net_text (v_net : Net) : Prop :=
  ((s_net_rows v_net) ∧ (∀ xv1 ∈ (t_net_rows v_net), ((xv1.length + (("\n" : Str)).length ≤ 10000000))) ∧ (((t_net_rows v_net)).length ≤ 10000) ∧ ((("" : Str)).length ≤ 1000000 ∧ (((((t_net_rows v_net).map (fun (xv1 : Str) => (xv1 ++ ("\n" : Str))))).map fun s => s.length).sum + (((t_net_rows v_net).map (fun (xv1 : Str) => (xv1 ++ ("\n" : Str))))).length * (("" : Str)).length ≤ 16777216)))
theorem e_net_text {v_net : Net} (h : s_net_text v_net) : fn_net_text [eNet v_net] = .ok (D.str (t_net_text v_net)) .ff .non := by
  refine run0 (F := D.str) (o := .ff) (fb := fb_net_text) (x := t_net_text v_net) ?_
  show JR D.str .ff (fb_net_text [.fz (eNet v_net), .un]) _
  delta fb_net_text t_net_text
  delta s_net_text at h
  exact sRet (mof (t_join (s := ("" : Str)) (xs := ((t_net_rows v_net).map (fun (xv1 : Str) => (xv1 ++ ("\n" : Str))))) rfl (mfz (lcM (F := D.str) (G := D.str) (φ := fun (xv1 : Str) => (xv1 ++ ("\n" : Str))) (ρ1 := [.fz (eNet v_net), .un]) (i_L (F := D.str) (mfz (cN (x1 (vf 0 rfl) x0) rfl rfl (e_net_rows (v_net := v_net) h.1 :) rfl))) rfl (fun xv1 hx2 => ⟨_, rfl, rfl, _, b2 (vf 1 rfl) rfl (o_addS (h.2.1 xv1 hx2)), rfl⟩) h.2.2.1 rfl)) h.2.2.2)) (jr_mk rfl)
end Tex
namespace K06
open PySem PySem.Spec PyProof.Rows L2 Dt
noncomputable def fb__law_some : M Fl :=
  mRet (mCallN 2 none Std.fn__law_fraction (xV (mBin dAdd (M.pure (.int 1)) (mFz (mCallN 2 (some 0) Std.fn__law_take (xS 0 (xV (mVar 1) xNil))))) (xV (mBin dAdd (M.pure (.int 1)) (mFz (mCallN 2 (some 0) Std.fn__law_take (xS 0 (xV (mVar 1) xNil))))) xNil)))
noncomputable def fn__law_some : List D → Rf := runF (some 0) 2 fb__law_some
noncomputable def t__law_some (v_stream_here : Std.Stm) (v_most : Int) : (Rat × Std.Stm) :=
  ((Rat.divInt (((1 : Int) + (Std.t__law_take v_stream_here v_most).1)) (((1 : Int) + (Std.t__law_take ((Std.t__law_take v_stream_here v_most).2) v_most).1))), (Std.t__law_take ((Std.t__law_take v_stream_here v_most).2) v_most).2)
def s__law_some (v_stream_here : Std.Stm) (v_most : Int) : Prop :=
  ((0 < v_most) ∧ (0 < v_most) ∧ (0 < (((1 : Int) + (Std.t__law_take ((Std.t__law_take v_stream_here v_most).2) v_most).1))))
theorem e__law_some {v_stream_here : Std.Stm} {v_most : Int} (h : s__law_some v_stream_here v_most) : fn__law_some [Std.eStm v_stream_here, D.int v_most] = .ok (fq (t__law_some v_stream_here v_most).1) .ff (Std.eStm (t__law_some v_stream_here v_most).2) := by
  refine runI (F := fq) (G := Std.eStm) (o := .ff) (fb := fb__law_some) (x := t__law_some v_stream_here v_most) ?_
  show JI 0 fq Std.eStm .ff (fb__law_some [.io (Std.eStm v_stream_here), zI v_most]) _
  delta fb__law_some t__law_some
  delta s__law_some at h
  exact sRet (cN (x1 (b2 rfl (mfz (cN (x1s (i := 0) rfl rfl (x1 (vf 1 rfl) x0)) rfl rfl (Std.e__law_take (s := v_stream_here) (most := v_most) h.1 :) rfl)) rfl) (x1 (b2 rfl (mfz (cN (x1s (i := 0) rfl rfl (x1 (vf 1 rfl) x0)) rfl rfl (Std.e__law_take (s := (Std.t__law_take v_stream_here v_most).2) (most := v_most) h.2.1 :) rfl)) rfl) x0)) rfl rfl (Std.e__law_fraction (a := ((1 : Int) + (Std.t__law_take v_stream_here v_most).1)) (b := ((1 : Int) + (Std.t__law_take ((Std.t__law_take v_stream_here v_most).2) v_most).1)) h.2.2 :) rfl) (ji_mk rfl rfl)
noncomputable def fb__law_line : M Fl :=
  mSeq (mSet 3 (mOf (mBin dAdd (M.pure (.int 1)) (mFz (mCallN 2 (some 0) Std.fn__law_take (xS 0 (xV (mVar 2) xNil)))))))
    (mSeq (mSet 4 (mSortI (mCons (mFz (mLc [9] (mRange1 (mCons (mBin dAdd (M.pure (.int 1)) (mFz (mCallN 2 (some 0) Std.fn__law_take (xS 0 (xV (M.pure (.int 6)) xNil))))) mNil)) (gN 9) (M.pure true) (mBin dAdd (M.pure (.int 1)) (mFz (mCallN 2 (some 0) Std.fn__law_take (xS 0 (xV (mVar 2) xNil))))))) mNil)))
    (mSeq (mFrz 4)
    (mSeq (mSet 5 (mLc [8] (mIter (mVar 4)) (gN 8) (M.pure true) (mFz (mCallN 2 none Std.fn__law_fraction (xV (mVar 8) (xV (mVar 3) xNil))))))
    (mSeq (mSet 6 (mOf (mTup (mCons (M.pure (.int 0)) (mCons (M.pure (.int 1)) mNil)))))
    (mSeq (mIf (mAnd (mTest (mBin dNe (mVar 1) (M.pure (.str "wide")))) (mTest (mBin dEq (mFz (mCallN 2 (some 0) Std.fn__law_take (xS 0 (xV (M.pure (.int 2)) xNil)))) (M.pure (.int 1))))) (mSeq (mSet 6 (mCallN 2 (some 0) fn__law_some (xS 0 (xV (mVar 2) xNil))))
    mNx) mNx)
    (mSeq (mFrz 5)
    (mSeq (mIf (mOr (mTest (mBin dEq (mVar 1) (M.pure (.str "wide")))) (mAnd (mTest (mBin dEq (mVar 1) (M.pure (.str "shut")))) (mTest (mBin dEq (mFz (mCallN 2 (some 0) Std.fn__law_take (xS 0 (xV (M.pure (.int 2)) xNil)))) (M.pure (.int 1)))))) (mRet (mOf (mTup (mCons (mVar 5) (mCons (mVar 6) (mCons (M.pure (.int 0)) (mCons (M.pure (.str "")) mNil))))))) mNx)
    (mSeq (mSet 7 (mLst (mCons (M.pure (.str "stay")) (mCons (M.pure (.str "skip")) (mCons (M.pure (.str "lose")) mNil)))))
    (mSeq (mIf (mTest (mBin dEq (mVar 1) (M.pure (.str "shut")))) (mSeq (mSet 7 (mLst (mCons (M.pure (.str "stay")) (mCons (M.pure (.str "skip")) mNil))))
    mNx) mNx)
    (mSeq (mFrz 7)
    (mRet (mOf (mTup (mCons (mVar 5) (mCons (mVar 6) (mCons (mBin dAdd (M.pure (.int 8)) (mFz (mCallN 2 (some 0) Std.fn__law_take (xS 0 (xV (M.pure (.int 2)) xNil))))) (mCons (mBin dIx (mVar 7) (mFz (mCallN 2 (some 0) Std.fn__law_take (xS 0 (xV (mCall dLen (mCons (mVar 7) mNil)) xNil))))) mNil)))))))))))))))))
noncomputable def fn__law_line : List D → Rf := runF (some 0) 10 fb__law_line
noncomputable def t__law_line (v_stream_here : Std.Stm) (v_kind : Str) (v_most : Int) : (Line × Std.Stm) :=
  bd ((Std.t__law_take v_stream_here v_most).2, ((1 : Int) + (Std.t__law_take v_stream_here v_most).1)) (fun (z1 : (Std.Stm × Int)) => bd ((lcS (fun (xv2 : Int) (s3 : Std.Stm) => (true, s3)) (fun (xv2 : Int) (s3 : Std.Stm) => (((1 : Int) + (Std.t__law_take s3 v_most).1), (Std.t__law_take s3 v_most).2)) (rangeI 0 (((1 : Int) + (Std.t__law_take z1.1 ((6 : Int))).1))) ((Std.t__law_take z1.1 ((6 : Int))).2)).2, (PySem.W.sortI ((lcS (fun (xv2 : Int) (s3 : Std.Stm) => (true, s3)) (fun (xv2 : Int) (s3 : Std.Stm) => (((1 : Int) + (Std.t__law_take s3 v_most).1), (Std.t__law_take s3 v_most).2)) (rangeI 0 (((1 : Int) + (Std.t__law_take z1.1 ((6 : Int))).1))) ((Std.t__law_take z1.1 ((6 : Int))).2)).1))) (fun (z6 : (Std.Stm × (List Int))) => bd (z6.2.map (fun (xv7 : Int) => (Rat.divInt xv7 z1.2))) (fun (v_speeds_10 : (List Rat)) => bd (0 : Rat) (fun (v_more_11 : Rat) => bd (cond ((!decide (v_kind = ("wide" : Str))) && (decide ((Std.t__law_take z6.1 ((2 : Int))).1 = (1 : Int)))) (bd ((t__law_some ((cond ((!decide (v_kind = ("wide" : Str)))) ((Std.t__law_take z6.1 ((2 : Int))).2) z6.1)) v_most).2, (t__law_some ((cond ((!decide (v_kind = ("wide" : Str)))) ((Std.t__law_take z6.1 ((2 : Int))).2) z6.1)) v_most).1) (fun (z15 : (Std.Stm × Rat)) => (z15.1, z15.2))) ((cond ((!decide (v_kind = ("wide" : Str)))) ((Std.t__law_take z6.1 ((2 : Int))).2) z6.1), v_more_11)) (fun (z17 : (Std.Stm × Rat)) => cond ((decide (v_kind = ("wide" : Str))) || ((decide (v_kind = ("shut" : Str))) && (decide ((Std.t__law_take z17.1 ((2 : Int))).1 = (1 : Int))))) ((v_speeds_10, z17.2, (0 : Int), ("" : Str)), (cond ((decide (v_kind = ("wide" : Str)))) z17.1 ((cond ((decide (v_kind = ("shut" : Str)))) ((Std.t__law_take z17.1 ((2 : Int))).2) z17.1)))) (bd ([("stay" : Str), ("skip" : Str), ("lose" : Str)] : List Str) (fun (v_rules_22 : (List Str)) => bd (cond (decide (v_kind = ("shut" : Str))) (bd ([("stay" : Str), ("skip" : Str)] : List Str) (fun (v_rules_24 : (List Str)) => v_rules_24)) v_rules_22) (fun (z26 : ((List Str))) => ((v_speeds_10, z17.2, ((8 : Int) + (Std.t__law_take ((cond ((decide (v_kind = ("wide" : Str)))) z17.1 ((cond ((decide (v_kind = ("shut" : Str)))) ((Std.t__law_take z17.1 ((2 : Int))).2) z17.1)))) ((2 : Int))).1), (ix z26 ((Std.t__law_take ((Std.t__law_take ((cond ((decide (v_kind = ("wide" : Str)))) z17.1 ((cond ((decide (v_kind = ("shut" : Str)))) ((Std.t__law_take z17.1 ((2 : Int))).2) z17.1)))) ((2 : Int))).2) ((z26.length : Int))).1))), (Std.t__law_take ((Std.t__law_take ((cond ((decide (v_kind = ("wide" : Str)))) z17.1 ((cond ((decide (v_kind = ("shut" : Str)))) ((Std.t__law_take z17.1 ((2 : Int))).2) z17.1)))) ((2 : Int))).2) ((z26.length : Int))).2)))))))))
def s__law_line (v_stream_here : Std.Stm) (v_kind : Str) (v_most : Int) : Prop :=
  ((0 < v_most) ∧ (bd ((Std.t__law_take v_stream_here v_most).2, ((1 : Int) + (Std.t__law_take v_stream_here v_most).1)) (fun (z1 : (Std.Stm × Int)) => ((-100000000 < (((1 : Int) + (Std.t__law_take z1.1 ((6 : Int))).1)) ∧ (((1 : Int) + (Std.t__law_take z1.1 ((6 : Int))).1)) < 100000000) ∧ (slcS (fun (xv2 : Int) (s3 : Std.Stm) => (true, s3)) (fun (xv2 : Int) (s3 : Std.Stm) => (((1 : Int) + (Std.t__law_take s3 v_most).1), (Std.t__law_take s3 v_most).2)) (fun (xv2 : Int) (s3 : Std.Stm) => ((0 < v_most))) (rangeI 0 (((1 : Int) + (Std.t__law_take z1.1 ((6 : Int))).1))) ((Std.t__law_take z1.1 ((6 : Int))).2)) ∧ (((rangeI 0 (((1 : Int) + (Std.t__law_take z1.1 ((6 : Int))).1)))).length ≤ 10000) ∧ (bd ((lcS (fun (xv2 : Int) (s3 : Std.Stm) => (true, s3)) (fun (xv2 : Int) (s3 : Std.Stm) => (((1 : Int) + (Std.t__law_take s3 v_most).1), (Std.t__law_take s3 v_most).2)) (rangeI 0 (((1 : Int) + (Std.t__law_take z1.1 ((6 : Int))).1))) ((Std.t__law_take z1.1 ((6 : Int))).2)).2, (PySem.W.sortI ((lcS (fun (xv2 : Int) (s3 : Std.Stm) => (true, s3)) (fun (xv2 : Int) (s3 : Std.Stm) => (((1 : Int) + (Std.t__law_take s3 v_most).1), (Std.t__law_take s3 v_most).2)) (rangeI 0 (((1 : Int) + (Std.t__law_take z1.1 ((6 : Int))).1))) ((Std.t__law_take z1.1 ((6 : Int))).2)).1))) (fun (z6 : (Std.Stm × (List Int))) => ((∀ xv7 ∈ z6.2, ((0 < z1.2))) ∧ (z6.2.length ≤ 10000) ∧ (bd (z6.2.map (fun (xv7 : Int) => (Rat.divInt xv7 z1.2))) (fun (v_speeds_10 : (List Rat)) => bd (0 : Rat) (fun (v_more_11 : Rat) => ((((!decide (v_kind = ("wide" : Str))) && (decide ((Std.t__law_take z6.1 ((2 : Int))).1 = (1 : Int)))) = true → (s__law_some ((cond ((!decide (v_kind = ("wide" : Str)))) ((Std.t__law_take z6.1 ((2 : Int))).2) z6.1)) v_most)) ∧ (bd (cond ((!decide (v_kind = ("wide" : Str))) && (decide ((Std.t__law_take z6.1 ((2 : Int))).1 = (1 : Int)))) (bd ((t__law_some ((cond ((!decide (v_kind = ("wide" : Str)))) ((Std.t__law_take z6.1 ((2 : Int))).2) z6.1)) v_most).2, (t__law_some ((cond ((!decide (v_kind = ("wide" : Str)))) ((Std.t__law_take z6.1 ((2 : Int))).2) z6.1)) v_most).1) (fun (z15 : (Std.Stm × Rat)) => (z15.1, z15.2))) ((cond ((!decide (v_kind = ("wide" : Str)))) ((Std.t__law_take z6.1 ((2 : Int))).2) z6.1), v_more_11)) (fun (z17 : (Std.Stm × Rat)) => (((decide (v_kind = ("wide" : Str))) || ((decide (v_kind = ("shut" : Str))) && (decide ((Std.t__law_take z17.1 ((2 : Int))).1 = (1 : Int))))) = false → bd ([("stay" : Str), ("skip" : Str), ("lose" : Str)] : List Str) (fun (v_rules_22 : (List Str)) => bd (cond (decide (v_kind = ("shut" : Str))) (bd ([("stay" : Str), ("skip" : Str)] : List Str) (fun (v_rules_24 : (List Str)) => v_rules_24)) v_rules_22) (fun (z26 : ((List Str))) => ((0 < ((z26.length : Int))) ∧ (InB z26.length ((Std.t__law_take ((Std.t__law_take ((cond ((decide (v_kind = ("wide" : Str)))) z17.1 ((cond ((decide (v_kind = ("shut" : Str)))) ((Std.t__law_take z17.1 ((2 : Int))).2) z17.1)))) ((2 : Int))).2) ((z26.length : Int))).1)))))))))))))))))))
theorem e__law_line {v_stream_here : Std.Stm} {v_kind : Str} {v_most : Int} (h : s__law_line v_stream_here v_kind v_most) : fn__law_line [Std.eStm v_stream_here, D.str v_kind, D.int v_most] = .ok (eLine (t__law_line v_stream_here v_kind v_most).1) .ff (Std.eStm (t__law_line v_stream_here v_kind v_most).2) := by
  refine runI (F := eLine) (G := Std.eStm) (o := .ff) (fb := fb__law_line) (x := t__law_line v_stream_here v_kind v_most) ?_
  show JI 0 eLine Std.eStm .ff (fb__law_line [.io (Std.eStm v_stream_here), .fz (D.str v_kind), zI v_most, .un, .un, .un, .un, .un, .un, .un]) _
  delta fb__law_line t__law_line
  delta s__law_line at h
  exact sqB (ctx := fun (z1 : (Std.Stm × Int)) => [.io (Std.eStm z1.1), .fz (D.str v_kind), zI v_most, zI z1.2, .un, .un, .un, .un, .un, .un]) (sSet (mof (b2 rfl (mfz (cN (x1s (i := 0) rfl rfl (x1 (vf 2 rfl) x0)) rfl rfl (Std.e__law_take (s := v_stream_here) (most := v_most) h.1 :) rfl)) rfl)) rfl) h.2 (fun z1 h => sqB (ctx := fun (z6 : (Std.Stm × (List Int))) => [.io (Std.eStm z6.1), .fz (D.str v_kind), zI v_most, zI z1.2, .ow ((eL D.int) z6.2), .un, .un, .un, .un, .un]) (sSetO (t_sortI (a1 (mfz (lcSt (F := D.int) (G := D.int) (p := (fun (xv2 : Int) (s3 : Std.Stm) => (true, s3))) (φ := (fun (xv2 : Int) (s3 : Std.Stm) => (((1 : Int) + (Std.t__law_take s3 v_most).1), (Std.t__law_take s3 v_most).2))) (S := (fun (xv2 : Int) (s3 : Std.Stm) => ((0 < v_most)))) (ctx := fun s_ => [.io (Std.eStm s_), .fz (D.str v_kind), zI v_most, zI z1.2, .un, .un, .un, .un, .un, .un]) (ctx9 := fun s_ => [.io (Std.eStm s_), .fz (D.str v_kind), zI v_most, zI z1.2, .un, .un, .un, .un, .un, .un]) (s := (Std.t__law_take z1.1 ((6 : Int))).2) (i_r1 (a1 (b2 rfl (mfz (cN (x1s (i := 0) rfl rfl (x1 rfl x0)) rfl rfl (Std.e__law_take (s := z1.1) (most := (6 : Int)) (show 0 < ((6 : Int)) by decide) :) rfl)) rfl) a0) h.1) rfl h.2.1 (fun xv2 s3 hs4 => ⟨fun s_ => [.io (Std.eStm s_), .fz (D.str v_kind), zI v_most, zI z1.2, .un, .un, .un, .un, .un, zI xv2], rfl, rfl, fun _ => rfl, fun hc5 => b2 rfl (mfz (cN (x1s (i := 0) rfl rfl (x1 (vf 2 rfl) x0)) rfl rfl (Std.e__law_take (s := s3) (most := v_most) hs4 :) rfl)) rfl⟩) h.2.2.1 (fun _ => rfl))) a0)) rfl) h.2.2.2 (fun z6 h => sq (sFrz (i := 4) rfl (show _ = [.io (Std.eStm z6.1), .fz (D.str v_kind), zI v_most, zI z1.2, zJ z6.2, .un, .un, .un, .un, .un] from rfl)) (sqB (ctx := fun (v_speeds_10 : (List Rat)) => [.io (Std.eStm z6.1), .fz (D.str v_kind), zI v_most, zI z1.2, zJ z6.2, .ow ((eL fq) v_speeds_10), .un, .un, .un, .un]) (sSetO (lcM (F := D.int) (G := fq) (φ := fun (xv7 : Int) => (Rat.divInt xv7 z1.2)) (ρ1 := [.io (Std.eStm z6.1), .fz (D.str v_kind), zI v_most, zI z1.2, zJ z6.2, .un, .un, .un, .un, .un]) (i_L (F := D.int) (vf 4 rfl)) rfl (fun xv7 hx8 => ⟨_, rfl, rfl, _, mfz (cN (x1 (vf 8 rfl) (x1 (vf 3 rfl) x0)) rfl rfl (Std.e__law_fraction (a := xv7) (b := z1.2) (h.1 xv7 hx8) :) rfl), rfl⟩) h.2.1 rfl) rfl) h.2.2 (fun v_speeds_10 h => sqB (ctx := fun (v_more_11 : Rat) => [.io (Std.eStm z6.1), .fz (D.str v_kind), zI v_most, zI z1.2, zJ z6.2, .ow ((eL fq) v_speeds_10), zQ v_more_11, .un, .un, .un]) (sSet (mof (mtup (a1 rfl (a1 rfl a0)))) rfl) h (fun v_more_11 h => sqB (ctx := fun (z17 : (Std.Stm × Rat)) => [.io (Std.eStm z17.1), .fz (D.str v_kind), zI v_most, zI z1.2, zJ z6.2, .ow ((eL fq) v_speeds_10), zQ z17.2, .un, .un, .un]) (ifJ (ctx := fun (z16 : (Std.Stm × Rat)) => [.io (Std.eStm z16.1), .fz (D.str v_kind), zI v_most, zI z1.2, zJ z6.2, .ow ((eL fq) v_speeds_10), zQ z16.2, .un, .un, .un]) (v := bd ((t__law_some ((cond ((!decide (v_kind = ("wide" : Str)))) ((Std.t__law_take z6.1 ((2 : Int))).2) z6.1)) v_most).2, (t__law_some ((cond ((!decide (v_kind = ("wide" : Str)))) ((Std.t__law_take z6.1 ((2 : Int))).2) z6.1)) v_most).1) (fun (z15 : (Std.Stm × Rat)) => (z15.1, z15.2))) (w := ((cond ((!decide (v_kind = ("wide" : Str)))) ((Std.t__law_take z6.1 ((2 : Int))).2) z6.1), v_more_11)) (anS (ctx := fun z13 => [.io (Std.eStm z13), .fz (D.str v_kind), zI v_most, zI z1.2, zJ z6.2, .ow ((eL fq) v_speeds_10), zQ v_more_11, .un, .un, .un]) (s1 := z6.1) (s2 := (Std.t__law_take z6.1 ((2 : Int))).2) (tst (b2 (vf 1 rfl) rfl dNe_s)) (fun hc12 => tst (b2 (mfz (cN (x1s (i := 0) rfl rfl (x1 rfl x0)) rfl rfl (Std.e__law_take (s := z6.1) (most := (2 : Int)) (show 0 < ((2 : Int)) by decide) :) rfl)) rfl dEq_i))) (fun hc => (bdh (h.1 hc) (fun h => jnE (ctx := fun (z16 : (Std.Stm × Rat)) => [.io (Std.eStm z16.1), .fz (D.str v_kind), zI v_most, zI z1.2, zJ z6.2, .ow ((eL fq) v_speeds_10), zQ z16.2, .un, .un, .un]) (s := bd ((t__law_some ((cond ((!decide (v_kind = ("wide" : Str)))) ((Std.t__law_take z6.1 ((2 : Int))).2) z6.1)) v_most).2, (t__law_some ((cond ((!decide (v_kind = ("wide" : Str)))) ((Std.t__law_take z6.1 ((2 : Int))).2) z6.1)) v_most).1) (fun (z15 : (Std.Stm × Rat)) => (z15.1, z15.2))) (sqB (ctx := fun (z15 : (Std.Stm × Rat)) => [.io (Std.eStm z15.1), .fz (D.str v_kind), zI v_most, zI z1.2, zJ z6.2, .ow ((eL fq) v_speeds_10), zQ z15.2, .un, .un, .un]) (S := fun _ => True) (sSet (cN (x1s (i := 0) rfl rfl (x1 (vf 2 rfl) x0)) rfl rfl (e__law_some (v_stream_here := (cond ((!decide (v_kind = ("wide" : Str)))) ((Std.t__law_take z6.1 ((2 : Int))).2) z6.1)) (v_most := v_most) h :) rfl) rfl) trivial (fun z15 _ => rfl))))) (fun _ => jnE (ctx := fun (z16 : (Std.Stm × Rat)) => [.io (Std.eStm z16.1), .fz (D.str v_kind), zI v_most, zI z1.2, zJ z6.2, .ow ((eL fq) v_speeds_10), zQ z16.2, .un, .un, .un]) (s := ((cond ((!decide (v_kind = ("wide" : Str)))) ((Std.t__law_take z6.1 ((2 : Int))).2) z6.1), v_more_11)) rfl)) h.2 (fun z17 h => sq (sFrz (i := 5) rfl (show _ = [.io (Std.eStm z17.1), .fz (D.str v_kind), zI v_most, zI z1.2, zJ z6.2, zL v_speeds_10, zQ z17.2, .un, .un, .un] from rfl)) (sqIf (orS (ctx := fun z21 => [.io (Std.eStm z21), .fz (D.str v_kind), zI v_most, zI z1.2, zJ z6.2, zL v_speeds_10, zQ z17.2, .un, .un, .un]) (s1 := z17.1) (s2 := (cond ((decide (v_kind = ("shut" : Str)))) ((Std.t__law_take z17.1 ((2 : Int))).2) z17.1)) (tst (b2 (vf 1 rfl) rfl dEq_s)) (fun hc20 => anS (ctx := fun z19 => [.io (Std.eStm z19), .fz (D.str v_kind), zI v_most, zI z1.2, zJ z6.2, zL v_speeds_10, zQ z17.2, .un, .un, .un]) (s1 := z17.1) (s2 := (Std.t__law_take z17.1 ((2 : Int))).2) (tst (b2 (vf 1 rfl) rfl dEq_s)) (fun hc18 => tst (b2 (mfz (cN (x1s (i := 0) rfl rfl (x1 rfl x0)) rfl rfl (Std.e__law_take (s := z17.1) (most := (2 : Int)) (show 0 < ((2 : Int)) by decide) :) rfl)) rfl dEq_i)))) (fun _ => sqRet (mof (mtup (a1 (vf 5 rfl) (a1 (vf 6 rfl) (a1 rfl (a1 rfl a0)))))) (ji_mk rfl rfl)) (fun hc => bdh (h hc) (fun h => sq rfl (sqB (ctx := fun (v_rules_22 : (List Str)) => [.io (Std.eStm ((cond ((decide (v_kind = ("wide" : Str)))) z17.1 ((cond ((decide (v_kind = ("shut" : Str)))) ((Std.t__law_take z17.1 ((2 : Int))).2) z17.1))))), .fz (D.str v_kind), zI v_most, zI z1.2, zJ z6.2, zL v_speeds_10, zQ z17.2, .ow ((eL D.str) v_rules_22), .un, .un]) (sSetO (mlst (a1 rfl (a1 rfl (a1 rfl a0)))) rfl) h (fun v_rules_22 h => sqB (ctx := fun (z26 : ((List Str))) => [.io (Std.eStm ((cond ((decide (v_kind = ("wide" : Str)))) z17.1 ((cond ((decide (v_kind = ("shut" : Str)))) ((Std.t__law_take z17.1 ((2 : Int))).2) z17.1))))), .fz (D.str v_kind), zI v_most, zI z1.2, zJ z6.2, zL v_speeds_10, zQ z17.2, .ow ((eL D.str) z26), .un, .un]) (ifJ (ctx := fun (z25 : ((List Str))) => [.io (Std.eStm ((cond ((decide (v_kind = ("wide" : Str)))) z17.1 ((cond ((decide (v_kind = ("shut" : Str)))) ((Std.t__law_take z17.1 ((2 : Int))).2) z17.1))))), .fz (D.str v_kind), zI v_most, zI z1.2, zJ z6.2, zL v_speeds_10, zQ z17.2, .ow ((eL D.str) z25), .un, .un]) (v := bd ([("stay" : Str), ("skip" : Str)] : List Str) (fun (v_rules_24 : (List Str)) => v_rules_24)) (w := v_rules_22) (tst (b2 (vf 1 rfl) rfl dEq_s)) (fun _ => jnE (ctx := fun (z25 : ((List Str))) => [.io (Std.eStm ((cond ((decide (v_kind = ("wide" : Str)))) z17.1 ((cond ((decide (v_kind = ("shut" : Str)))) ((Std.t__law_take z17.1 ((2 : Int))).2) z17.1))))), .fz (D.str v_kind), zI v_most, zI z1.2, zJ z6.2, zL v_speeds_10, zQ z17.2, .ow ((eL D.str) z25), .un, .un]) (s := bd ([("stay" : Str), ("skip" : Str)] : List Str) (fun (v_rules_24 : (List Str)) => v_rules_24)) (sqB (ctx := fun (v_rules_24 : (List Str)) => [.io (Std.eStm ((cond ((decide (v_kind = ("wide" : Str)))) z17.1 ((cond ((decide (v_kind = ("shut" : Str)))) ((Std.t__law_take z17.1 ((2 : Int))).2) z17.1))))), .fz (D.str v_kind), zI v_most, zI z1.2, zJ z6.2, zL v_speeds_10, zQ z17.2, .ow ((eL D.str) v_rules_24), .un, .un]) (S := fun _ => True) (sSetO (mlst (a1 rfl (a1 rfl a0))) rfl) trivial (fun v_rules_24 _ => rfl))) (fun _ => jnE (ctx := fun (z25 : ((List Str))) => [.io (Std.eStm ((cond ((decide (v_kind = ("wide" : Str)))) z17.1 ((cond ((decide (v_kind = ("shut" : Str)))) ((Std.t__law_take z17.1 ((2 : Int))).2) z17.1))))), .fz (D.str v_kind), zI v_most, zI z1.2, zJ z6.2, zL v_speeds_10, zQ z17.2, .ow ((eL D.str) z25), .un, .un]) (s := v_rules_22) rfl)) h (fun z26 h => sq (sFrz (i := 7) rfl (show _ = [.io (Std.eStm ((cond ((decide (v_kind = ("wide" : Str)))) z17.1 ((cond ((decide (v_kind = ("shut" : Str)))) ((Std.t__law_take z17.1 ((2 : Int))).2) z17.1))))), .fz (D.str v_kind), zI v_most, zI z1.2, zJ z6.2, zL v_speeds_10, zQ z17.2, .fz ((eL D.str) z26), .un, .un] from rfl)) (sRet (mof (mtup (a1 (vf 5 rfl) (a1 (vf 6 rfl) (a1 (b2 rfl (mfz (cN (x1s (i := 0) rfl rfl (x1 rfl x0)) rfl rfl (Std.e__law_take (s := (cond ((decide (v_kind = ("wide" : Str)))) z17.1 ((cond ((decide (v_kind = ("shut" : Str)))) ((Std.t__law_take z17.1 ((2 : Int))).2) z17.1)))) (most := (2 : Int)) (show 0 < ((2 : Int)) by decide) :) rfl)) rfl) (a1 (b2 (vf 7 rfl) (mfz (cN (x1s (i := 0) rfl rfl (x1 (c1 (a1 (vf 7 rfl) a0) (o_lenL (F := D.str))) x0)) rfl rfl (Std.e__law_take (s := (Std.t__law_take ((cond ((decide (v_kind = ("wide" : Str)))) z17.1 ((cond ((decide (v_kind = ("shut" : Str)))) ((Std.t__law_take z17.1 ((2 : Int))).2) z17.1)))) ((2 : Int))).2) (most := (z26.length : Int)) h.1 :) rfl)) (o_ixL (F := D.str) (xs := z26) h.2)) a0)))))) (ji_mk rfl rfl))))))))))))))
noncomputable def fb__law_goes : M Fl :=
  mSeq (mSet 3 (mLc [6] (mRange1 (mCons (mVar 1) mNil)) (gN 6) (mTest (mBin dEq (mFz (mCallN 2 (some 0) Std.fn__law_take (xS 0 (xV (M.pure (.int 3)) xNil)))) (M.pure (.int 1)))) (mVar 6)))
    (mSeq (mFrz 3)
    (mSeq (mIf (mAnd (mTest (mBin dEq (mVar 3) (mFz (mLst mNil)))) (mTest (mVar 2))) (mSeq (mSet 3 (mLst (mCons (mFz (mCallN 2 (some 0) Std.fn__law_take (xS 0 (xV (mVar 1) xNil)))) mNil)))
    (mSeq (mFrz 3) mNx)) mNx)
    (mSeq (mSet 4 (mLc [6] (mIter (mVar 3)) (gN 6) (M.pure true) (mBin dAdd (M.pure (.int 1)) (mFz (mCallN 2 (some 0) Std.fn__law_take (xS 0 (xV (M.pure (.int 60)) xNil)))))))
    (mSeq (mFrz 4)
    (mSeq (mSet 5 (mOf (mCall dSum (mCons (mVar 4) mNil))))
    (mSeq (mIf (mNot (mTest (mVar 2))) (mSeq (mSet 5 (mOf (mBin dAdd (mVar 5) (mFz (mCallN 2 (some 0) Std.fn__law_take (xS 0 (xV (M.pure (.int 100)) xNil)))))))
    mNx) mNx)
    (mRet (mLc [6, 7] (mZip (mCons (mVar 3) (mCons (mVar 4) mNil))) (gT 2 (gsC (gN 6) (gsC (gN 7) gsN))) (M.pure true) (mTup (mCons (mVar 6) (mCons (mFz (mCallN 2 none Std.fn__law_fraction (xV (mVar 7) (xV (mVar 5) xNil)))) mNil)))))))))))
noncomputable def fn__law_goes : List D → Rf := runF (some 0) 8 fb__law_goes
noncomputable def t__law_goes (v_stream_here : Std.Stm) (v_stands : Int) (v_full : Bool) : ((List Way) × Std.Stm) :=
  bd ((lcS (fun (xv1 : Int) (s2 : Std.Stm) => ((decide ((Std.t__law_take s2 ((3 : Int))).1 = (1 : Int))), (Std.t__law_take s2 ((3 : Int))).2)) (fun (xv1 : Int) (s2 : Std.Stm) => (xv1, s2)) (rangeI 0 v_stands) v_stream_here).2, (lcS (fun (xv1 : Int) (s2 : Std.Stm) => ((decide ((Std.t__law_take s2 ((3 : Int))).1 = (1 : Int))), (Std.t__law_take s2 ((3 : Int))).2)) (fun (xv1 : Int) (s2 : Std.Stm) => (xv1, s2)) (rangeI 0 v_stands) v_stream_here).1) (fun (z5 : (Std.Stm × (List Int))) => bd (cond ((decide (z5.2 = ([] : List Int))) && v_full) (bd ((Std.t__law_take z5.1 v_stands).2, ([(Std.t__law_take z5.1 v_stands).1] : List Int)) (fun (z8 : (Std.Stm × (List Int))) => (z8.1, z8.2))) (z5.1, z5.2)) (fun (z10 : (Std.Stm × (List Int))) => bd ((lcS (fun (xv11 : Int) (s12 : Std.Stm) => (true, s12)) (fun (xv11 : Int) (s12 : Std.Stm) => (((1 : Int) + (Std.t__law_take s12 ((60 : Int))).1), (Std.t__law_take s12 ((60 : Int))).2)) z10.2 z10.1).2, (lcS (fun (xv11 : Int) (s12 : Std.Stm) => (true, s12)) (fun (xv11 : Int) (s12 : Std.Stm) => (((1 : Int) + (Std.t__law_take s12 ((60 : Int))).1), (Std.t__law_take s12 ((60 : Int))).2)) z10.2 z10.1).1) (fun (z15 : (Std.Stm × (List Int))) => bd z15.2.sum (fun (v_below_16 : Int) => bd (cond (!v_full) (bd ((Std.t__law_take z15.1 ((100 : Int))).2, (v_below_16 + (Std.t__law_take z15.1 ((100 : Int))).1)) (fun (z18 : (Std.Stm × Int)) => (z18.1, z18.2))) (z15.1, v_below_16)) (fun (z20 : (Std.Stm × Int)) => (((z10.2.zip z15.2).map (fun (xv21 : (Int × Int)) => (xv21.1, (Rat.divInt xv21.2 z20.2)))), z20.1))))))
def s__law_goes (v_stream_here : Std.Stm) (v_stands : Int) (v_full : Bool) : Prop :=
  ((-100000000 < v_stands ∧ v_stands < 100000000) ∧ (((rangeI 0 v_stands)).length ≤ 10000) ∧ (bd ((lcS (fun (xv1 : Int) (s2 : Std.Stm) => ((decide ((Std.t__law_take s2 ((3 : Int))).1 = (1 : Int))), (Std.t__law_take s2 ((3 : Int))).2)) (fun (xv1 : Int) (s2 : Std.Stm) => (xv1, s2)) (rangeI 0 v_stands) v_stream_here).2, (lcS (fun (xv1 : Int) (s2 : Std.Stm) => ((decide ((Std.t__law_take s2 ((3 : Int))).1 = (1 : Int))), (Std.t__law_take s2 ((3 : Int))).2)) (fun (xv1 : Int) (s2 : Std.Stm) => (xv1, s2)) (rangeI 0 v_stands) v_stream_here).1) (fun (z5 : (Std.Stm × (List Int))) => ((((decide (z5.2 = ([] : List Int))) && v_full) = true → (0 < v_stands)) ∧ (bd (cond ((decide (z5.2 = ([] : List Int))) && v_full) (bd ((Std.t__law_take z5.1 v_stands).2, ([(Std.t__law_take z5.1 v_stands).1] : List Int)) (fun (z8 : (Std.Stm × (List Int))) => (z8.1, z8.2))) (z5.1, z5.2)) (fun (z10 : (Std.Stm × (List Int))) => ((z10.2.length ≤ 10000) ∧ (bd ((lcS (fun (xv11 : Int) (s12 : Std.Stm) => (true, s12)) (fun (xv11 : Int) (s12 : Std.Stm) => (((1 : Int) + (Std.t__law_take s12 ((60 : Int))).1), (Std.t__law_take s12 ((60 : Int))).2)) z10.2 z10.1).2, (lcS (fun (xv11 : Int) (s12 : Std.Stm) => (true, s12)) (fun (xv11 : Int) (s12 : Std.Stm) => (((1 : Int) + (Std.t__law_take s12 ((60 : Int))).1), (Std.t__law_take s12 ((60 : Int))).2)) z10.2 z10.1).1) (fun (z15 : (Std.Stm × (List Int))) => bd z15.2.sum (fun (v_below_16 : Int) => bd (cond (!v_full) (bd ((Std.t__law_take z15.1 ((100 : Int))).2, (v_below_16 + (Std.t__law_take z15.1 ((100 : Int))).1)) (fun (z18 : (Std.Stm × Int)) => (z18.1, z18.2))) (z15.1, v_below_16)) (fun (z20 : (Std.Stm × Int)) => ((∀ xv21 ∈ (z10.2.zip z15.2), ((0 < z20.2))) ∧ (((z10.2.zip z15.2)).length ≤ 10000)))))))))))))
theorem e__law_goes {v_stream_here : Std.Stm} {v_stands : Int} {v_full : Bool} (h : s__law_goes v_stream_here v_stands v_full) : fn__law_goes [Std.eStm v_stream_here, D.int v_stands, D.bl v_full] = .ok ((eL eWay) (t__law_goes v_stream_here v_stands v_full).1) .tt (Std.eStm (t__law_goes v_stream_here v_stands v_full).2) := by
  refine runI (F := (eL eWay)) (G := Std.eStm) (o := .tt) (fb := fb__law_goes) (x := t__law_goes v_stream_here v_stands v_full) ?_
  show JI 0 (eL eWay) Std.eStm .tt (fb__law_goes [.io (Std.eStm v_stream_here), zI v_stands, .fz (D.bl v_full), .un, .un, .un, .un, .un]) _
  delta fb__law_goes t__law_goes
  delta s__law_goes at h
  exact sqB (ctx := fun (z5 : (Std.Stm × (List Int))) => [.io (Std.eStm z5.1), zI v_stands, .fz (D.bl v_full), .ow ((eL D.int) z5.2), .un, .un, .un, .un]) (sSetO (lcSt (F := D.int) (G := D.int) (p := (fun (xv1 : Int) (s2 : Std.Stm) => ((decide ((Std.t__law_take s2 ((3 : Int))).1 = (1 : Int))), (Std.t__law_take s2 ((3 : Int))).2))) (φ := (fun (xv1 : Int) (s2 : Std.Stm) => (xv1, s2))) (S := (fun (xv1 : Int) (s2 : Std.Stm) => True)) (ctx := fun s_ => [.io (Std.eStm s_), zI v_stands, .fz (D.bl v_full), .un, .un, .un, .un, .un]) (ctx9 := fun s_ => [.io (Std.eStm s_), zI v_stands, .fz (D.bl v_full), .un, .un, .un, .un, .un]) (s := v_stream_here) (i_r1 (a1 (vf 1 rfl) a0) h.1) rfl slcS_T (fun xv1 s2 hs3 => ⟨fun s_ => [.io (Std.eStm s_), zI v_stands, .fz (D.bl v_full), .un, .un, .un, zI xv1, .un], rfl, tst (b2 (mfz (cN (x1s (i := 0) rfl rfl (x1 rfl x0)) rfl rfl (Std.e__law_take (s := s2) (most := (3 : Int)) (show 0 < ((3 : Int)) by decide) :) rfl)) rfl dEq_i), fun _ => rfl, fun hc4 => vf 6 rfl⟩) h.2.1 (fun _ => rfl)) rfl) h.2.2 (fun z5 h => sq (sFrz (i := 3) rfl (show _ = [.io (Std.eStm z5.1), zI v_stands, .fz (D.bl v_full), zJ z5.2, .un, .un, .un, .un] from rfl)) (sqB (ctx := fun (z10 : (Std.Stm × (List Int))) => [.io (Std.eStm z10.1), zI v_stands, .fz (D.bl v_full), zJ z10.2, .un, .un, .un, .un]) (ifJ (ctx := fun (z9 : (Std.Stm × (List Int))) => [.io (Std.eStm z9.1), zI v_stands, .fz (D.bl v_full), zJ z9.2, .un, .un, .un, .un]) (v := bd ((Std.t__law_take z5.1 v_stands).2, ([(Std.t__law_take z5.1 v_stands).1] : List Int)) (fun (z8 : (Std.Stm × (List Int))) => (z8.1, z8.2))) (w := (z5.1, z5.2)) (an (tst (b2 (vf 3 rfl) (mfz (mlst a0)) ((o_eq (F := (eL D.int)) (x := z5.2) (y := ([] : List Int)) (gL gI))))) (fun hc6 => tst (vf 2 rfl))) (fun hc => (bdh (h.1 hc) (fun h => jnE (ctx := fun (z9 : (Std.Stm × (List Int))) => [.io (Std.eStm z9.1), zI v_stands, .fz (D.bl v_full), zJ z9.2, .un, .un, .un, .un]) (s := bd ((Std.t__law_take z5.1 v_stands).2, ([(Std.t__law_take z5.1 v_stands).1] : List Int)) (fun (z8 : (Std.Stm × (List Int))) => (z8.1, z8.2))) (sqB (ctx := fun (z8 : (Std.Stm × (List Int))) => [.io (Std.eStm z8.1), zI v_stands, .fz (D.bl v_full), .ow ((eL D.int) z8.2), .un, .un, .un, .un]) (S := fun _ => True) (sSetO (mlst (a1 (mfz (cN (x1s (i := 0) rfl rfl (x1 (vf 1 rfl) x0)) rfl rfl (Std.e__law_take (s := z5.1) (most := v_stands) h :) rfl)) a0)) rfl) trivial (fun z8 _ => sq (sFrz (i := 3) rfl (show _ = [.io (Std.eStm z8.1), zI v_stands, .fz (D.bl v_full), zJ z8.2, .un, .un, .un, .un] from rfl)) rfl))))) (fun _ => jnE (ctx := fun (z9 : (Std.Stm × (List Int))) => [.io (Std.eStm z9.1), zI v_stands, .fz (D.bl v_full), zJ z9.2, .un, .un, .un, .un]) (s := (z5.1, z5.2)) rfl)) h.2 (fun z10 h => sqB (ctx := fun (z15 : (Std.Stm × (List Int))) => [.io (Std.eStm z15.1), zI v_stands, .fz (D.bl v_full), zJ z10.2, .ow ((eL D.int) z15.2), .un, .un, .un]) (sSetO (lcSt (F := D.int) (G := D.int) (p := (fun (xv11 : Int) (s12 : Std.Stm) => (true, s12))) (φ := (fun (xv11 : Int) (s12 : Std.Stm) => (((1 : Int) + (Std.t__law_take s12 ((60 : Int))).1), (Std.t__law_take s12 ((60 : Int))).2))) (S := (fun (xv11 : Int) (s12 : Std.Stm) => True)) (ctx := fun s_ => [.io (Std.eStm s_), zI v_stands, .fz (D.bl v_full), zJ z10.2, .un, .un, .un, .un]) (ctx9 := fun s_ => [.io (Std.eStm s_), zI v_stands, .fz (D.bl v_full), zJ z10.2, .un, .un, .un, .un]) (s := z10.1) (i_L (F := D.int) (vf 3 rfl)) rfl slcS_T (fun xv11 s12 hs13 => ⟨fun s_ => [.io (Std.eStm s_), zI v_stands, .fz (D.bl v_full), zJ z10.2, .un, .un, zI xv11, .un], rfl, rfl, fun _ => rfl, fun hc14 => b2 rfl (mfz (cN (x1s (i := 0) rfl rfl (x1 rfl x0)) rfl rfl (Std.e__law_take (s := s12) (most := (60 : Int)) (show 0 < ((60 : Int)) by decide) :) rfl)) rfl⟩) h.1 (fun _ => rfl)) rfl) h.2 (fun z15 h => sq (sFrz (i := 4) rfl (show _ = [.io (Std.eStm z15.1), zI v_stands, .fz (D.bl v_full), zJ z10.2, zJ z15.2, .un, .un, .un] from rfl)) (sqB (ctx := fun (v_below_16 : Int) => [.io (Std.eStm z15.1), zI v_stands, .fz (D.bl v_full), zJ z10.2, zJ z15.2, zI v_below_16, .un, .un]) (sSet (mof (c1 (a1 (vf 4 rfl) a0) o_sum)) rfl) h (fun v_below_16 h => sqB (ctx := fun (z20 : (Std.Stm × Int)) => [.io (Std.eStm z20.1), zI v_stands, .fz (D.bl v_full), zJ z10.2, zJ z15.2, zI z20.2, .un, .un]) (ifJ (ctx := fun (z19 : (Std.Stm × Int)) => [.io (Std.eStm z19.1), zI v_stands, .fz (D.bl v_full), zJ z10.2, zJ z15.2, zI z19.2, .un, .un]) (v := bd ((Std.t__law_take z15.1 ((100 : Int))).2, (v_below_16 + (Std.t__law_take z15.1 ((100 : Int))).1)) (fun (z18 : (Std.Stm × Int)) => (z18.1, z18.2))) (w := (z15.1, v_below_16)) (nt (tst (vf 2 rfl))) (fun _ => jnE (ctx := fun (z19 : (Std.Stm × Int)) => [.io (Std.eStm z19.1), zI v_stands, .fz (D.bl v_full), zJ z10.2, zJ z15.2, zI z19.2, .un, .un]) (s := bd ((Std.t__law_take z15.1 ((100 : Int))).2, (v_below_16 + (Std.t__law_take z15.1 ((100 : Int))).1)) (fun (z18 : (Std.Stm × Int)) => (z18.1, z18.2))) (sqB (ctx := fun (z18 : (Std.Stm × Int)) => [.io (Std.eStm z18.1), zI v_stands, .fz (D.bl v_full), zJ z10.2, zJ z15.2, zI z18.2, .un, .un]) (S := fun _ => True) (sSet (mof (b2 (vf 5 rfl) (mfz (cN (x1s (i := 0) rfl rfl (x1 rfl x0)) rfl rfl (Std.e__law_take (s := z15.1) (most := (100 : Int)) (show 0 < ((100 : Int)) by decide) :) rfl)) rfl)) rfl) trivial (fun z18 _ => rfl))) (fun _ => jnE (ctx := fun (z19 : (Std.Stm × Int)) => [.io (Std.eStm z19.1), zI v_stands, .fz (D.bl v_full), zJ z10.2, zJ z15.2, zI z19.2, .un, .un]) (s := (z15.1, v_below_16)) rfl)) h (fun z20 h => sRet (lcM (F := (eT2 D.int D.int)) (G := eWay) (φ := fun (xv21 : (Int × Int)) => (xv21.1, (Rat.divInt xv21.2 z20.2))) (ρ1 := [.io (Std.eStm z20.1), zI v_stands, .fz (D.bl v_full), zJ z10.2, zJ z15.2, zI z20.2, .un, .un]) (i_zip (F := D.int) (G := D.int) (a1 (vf 3 rfl) (a1 (vf 4 rfl) a0))) rfl (fun xv21 hx22 => ⟨_, rfl, rfl, _, mtup (a1 (vf 6 rfl) (a1 (mfz (cN (x1 (vf 7 rfl) (x1 (vf 5 rfl) x0)) rfl rfl (Std.e__law_fraction (a := xv21.2) (b := z20.2) (h.1 xv21 hx22) :) rfl)) a0)), rfl⟩) h.2 rfl) (ji_mk rfl rfl))))))))
noncomputable def fb__law_comers : M Fl :=
  mSeq (mIf (mTest (mBin dEq (mVar 1) (M.pure (.str "shut")))) (mSeq (mSet 6 (mRepO (mFz (mLst (mCons (M.pure (.int 0)) mNil))) (mVar 2)))
    (mSeq (mFor (mRange1 (mCons (mBin dAdd (M.pure (.int 1)) (mFz (mCallN 2 (some 0) Std.fn__law_take (xS 0 (xV (M.pure (.int 8)) xNil))))) mNil)) (gN 5) (mSeq (mSet 7 (mCallN 2 (some 0) Std.fn__law_take (xS 0 (xV (mVar 2) xNil))))
    (mSeq (mPutAt 6 (mBin dAdd (mPeek 6 (mVar 7)) (M.pure (.int 1))) (mVar 7))
    (mSeq (mKill [5, 7]) mNx))))
    (mSeq (mFrz 6)
    (mRet (mOf (mTup (mCons (M.pure (.str "shut")) (mCons (mVar 6) mNil)))))))) mNx)
    (mSeq (mSet 4 (mRepO (mFz (mLst (mCons (mTup (mCons (M.pure (.int 0)) (mCons (M.pure (.int 1)) mNil))) mNil))) (mVar 2)))
    (mSeq (mFor (mRange1 (mCons (mBin dAdd (M.pure (.int 1)) (mFz (mCallN 2 (some 0) Std.fn__law_take (xS 0 (xV (mVar 2) xNil))))) mNil)) (gN 5) (mSeq (mPutAt 4 (mFz (mCallN 2 (some 0) fn__law_some (xS 0 (xV (mVar 3) xNil)))) (mFz (mCallN 2 (some 0) Std.fn__law_take (xS 0 (xV (mVar 2) xNil)))))
    (mSeq (mKill [5]) mNx)))
    (mSeq (mFrz 4)
    (mRet (mOf (mTup (mCons (M.pure (.str "open")) (mCons (mVar 4) mNil))))))))
noncomputable def fn__law_comers : List D → Rf := runF (some 0) 8 fb__law_comers
noncomputable def t__law_comers (v_stream_here : Std.Stm) (v_kind : Str) (v_stands : Int) (v_most : Int) : ((Str × Num) × Std.Stm) :=
  cond (decide (v_kind = ("shut" : Str))) (bd (repI (([(0 : Int)] : List Int)) v_stands) (fun (v_counts_1 : (List Int)) => bd ((rangeI 0 (((1 : Int) + (Std.t__law_take v_stream_here ((8 : Int))).1))).foldl (fun (z2 : (Std.Stm × (List Int))) (xv3 : Int) => bd ((Std.t__law_take z2.1 v_stands).2, (Std.t__law_take z2.1 v_stands).1) (fun (z4 : (Std.Stm × Int)) => bd (setI z2.2 z4.2 (((ix z2.2 z4.2) + (1 : Int)))) (fun (v_counts_5 : (List Int)) => (z4.1, v_counts_5)))) ((Std.t__law_take v_stream_here ((8 : Int))).2, v_counts_1)) (fun (z6 : (Std.Stm × (List Int))) => ((("shut" : Str), (Sum.inr z6.2 : Num)), z6.1)))) (bd (repI (([(0 : Rat)] : List Rat)) v_stands) (fun (v_rates_7 : (List Rat)) => bd ((rangeI 0 (((1 : Int) + (Std.t__law_take v_stream_here v_stands).1))).foldl (fun (z8 : (Std.Stm × (List Rat))) (xv9 : Int) => bd ((Std.t__law_take ((t__law_some z8.1 v_most).2) v_stands).2, (setI z8.2 ((Std.t__law_take ((t__law_some z8.1 v_most).2) v_stands).1) ((t__law_some z8.1 v_most).1))) (fun (z10 : (Std.Stm × (List Rat))) => (z10.1, z10.2))) ((Std.t__law_take v_stream_here v_stands).2, v_rates_7)) (fun (z11 : (Std.Stm × (List Rat))) => ((("open" : Str), (Sum.inl z11.2 : Num)), z11.1))))
def s__law_comers (v_stream_here : Std.Stm) (v_kind : Str) (v_stands : Int) (v_most : Int) : Prop :=
  (((decide (v_kind = ("shut" : Str))) = true → ((v_stands < 10000 ∧ -10000 < v_stands ∧ (([(0 : Int)] : List Int)).length ≤ 1000) ∧ (bd (repI (([(0 : Int)] : List Int)) v_stands) (fun (v_counts_1 : (List Int)) => ((-100000000 < (((1 : Int) + (Std.t__law_take v_stream_here ((8 : Int))).1)) ∧ (((1 : Int) + (Std.t__law_take v_stream_here ((8 : Int))).1)) < 100000000) ∧ (sfl (fun (z2 : (Std.Stm × (List Int))) (xv3 : Int) => bd ((Std.t__law_take z2.1 v_stands).2, (Std.t__law_take z2.1 v_stands).1) (fun (z4 : (Std.Stm × Int)) => bd (setI z2.2 z4.2 (((ix z2.2 z4.2) + (1 : Int)))) (fun (v_counts_5 : (List Int)) => (z4.1, v_counts_5)))) (fun (z2 : (Std.Stm × (List Int))) (xv3 : Int) => ((0 < v_stands) ∧ (bd ((Std.t__law_take z2.1 v_stands).2, (Std.t__law_take z2.1 v_stands).1) (fun (z4 : (Std.Stm × Int)) => ((InB z2.2.length z4.2) ∧ (InB z2.2.length z4.2)))))) (rangeI 0 (((1 : Int) + (Std.t__law_take v_stream_here ((8 : Int))).1))) ((Std.t__law_take v_stream_here ((8 : Int))).2, v_counts_1))))))) ∧ ((decide (v_kind = ("shut" : Str))) = false → ((v_stands < 10000 ∧ -10000 < v_stands ∧ (([(0 : Rat)] : List Rat)).length ≤ 1000) ∧ (bd (repI (([(0 : Rat)] : List Rat)) v_stands) (fun (v_rates_7 : (List Rat)) => ((0 < v_stands) ∧ (-100000000 < (((1 : Int) + (Std.t__law_take v_stream_here v_stands).1)) ∧ (((1 : Int) + (Std.t__law_take v_stream_here v_stands).1)) < 100000000) ∧ (sfl (fun (z8 : (Std.Stm × (List Rat))) (xv9 : Int) => bd ((Std.t__law_take ((t__law_some z8.1 v_most).2) v_stands).2, (setI z8.2 ((Std.t__law_take ((t__law_some z8.1 v_most).2) v_stands).1) ((t__law_some z8.1 v_most).1))) (fun (z10 : (Std.Stm × (List Rat))) => (z10.1, z10.2))) (fun (z8 : (Std.Stm × (List Rat))) (xv9 : Int) => ((s__law_some z8.1 v_most) ∧ (0 < v_stands) ∧ (InB z8.2.length ((Std.t__law_take ((t__law_some z8.1 v_most).2) v_stands).1)))) (rangeI 0 (((1 : Int) + (Std.t__law_take v_stream_here v_stands).1))) ((Std.t__law_take v_stream_here v_stands).2, v_rates_7))))))))
theorem e__law_comers {v_stream_here : Std.Stm} {v_kind : Str} {v_stands : Int} {v_most : Int} (h : s__law_comers v_stream_here v_kind v_stands v_most) : fn__law_comers [Std.eStm v_stream_here, D.str v_kind, D.int v_stands, D.int v_most] = .ok ((eT2 D.str eNum) (t__law_comers v_stream_here v_kind v_stands v_most).1) .ff (Std.eStm (t__law_comers v_stream_here v_kind v_stands v_most).2) := by
  refine runI (F := (eT2 D.str eNum)) (G := Std.eStm) (o := .ff) (fb := fb__law_comers) (x := t__law_comers v_stream_here v_kind v_stands v_most) ?_
  show JI 0 (eT2 D.str eNum) Std.eStm .ff (fb__law_comers [.io (Std.eStm v_stream_here), .fz (D.str v_kind), zI v_stands, zI v_most, .un, .un, .un, .un]) _
  delta fb__law_comers t__law_comers
  delta s__law_comers at h
  exact sqIf (tst (b2 (vf 1 rfl) rfl dEq_s)) (fun hc => bdh (h.1 hc) (fun h => sAss (sqB (ctx := fun (v_counts_1 : (List Int)) => [.io (Std.eStm v_stream_here), .fz (D.str v_kind), zI v_stands, zI v_most, .un, .un, .ow ((eL D.int) v_counts_1), .un]) (sSetO (repO (F := D.int) (xs := ([(0 : Int)] : List Int)) (mfz (mlst (a1 rfl a0))) (vf 2 rfl) h.1) rfl) h.2 (fun v_counts_1 h => sAss (sqB (ctx := fun (z6 : (Std.Stm × (List Int))) => [.io (Std.eStm z6.1), .fz (D.str v_kind), zI v_stands, zI v_most, .un, .un, .ow ((eL D.int) z6.2), .un]) (S := fun _ => True) (forN (F := D.int) (ctx := fun (z2 : (Std.Stm × (List Int))) => [.io (Std.eStm z2.1), .fz (D.str v_kind), zI v_stands, zI v_most, .un, .un, .ow ((eL D.int) z2.2), .un]) (i_r1 (a1 (b2 rfl (mfz (cN (x1s (i := 0) rfl rfl (x1 rfl x0)) rfl rfl (Std.e__law_take (s := v_stream_here) (most := (8 : Int)) (show 0 < ((8 : Int)) by decide) :) rfl)) rfl) a0) h.1) h.2 (fun z2 xv3 h => ⟨_, rfl, sqB (ctx := fun (z4 : (Std.Stm × Int)) => [.io (Std.eStm z4.1), .fz (D.str v_kind), zI v_stands, zI v_most, .un, zI xv3, .ow ((eL D.int) z2.2), zI z4.2]) (sSet (cN (x1s (i := 0) rfl rfl (x1 (vf 2 rfl) x0)) rfl rfl (Std.e__law_take (s := z2.1) (most := v_stands) h.1 :) rfl) rfl) h.2 (fun z4 h => sqB (ctx := fun (v_counts_5 : (List Int)) => [.io (Std.eStm z4.1), .fz (D.str v_kind), zI v_stands, zI v_most, .un, zI xv3, .ow ((eL D.int) v_counts_5), zI z4.2]) (S := fun _ => True) (sPutO (i := 6) (F := D.int) (xs := z2.2) (v := ((ix z2.2 z4.2) + (1 : Int))) (b2 (pk (i := 6) (F := D.int) (xs := z2.2) rfl (vf 7 rfl) rfl h.1) rfl rfl) (vf 7 rfl) rfl rfl h.2 rfl) trivial (fun v_counts_5 _ => sq (sKill (show _ = [.io (Std.eStm z4.1), .fz (D.str v_kind), zI v_stands, zI v_most, .un, .un, .ow ((eL D.int) v_counts_5), .un] from rfl)) rfl))⟩)) trivial (fun z6 _ => sAss (sq (sFrz (i := 6) rfl (show _ = [.io (Std.eStm z6.1), .fz (D.str v_kind), zI v_stands, zI v_most, .un, .un, zJ z6.2, .un] from rfl)) (sqRet (mof (mtup (a1 rfl (a1 (vf 6 rfl) a0)))) (ji_mk rfl rfl))))))))) (fun hc => bdh (h.2 hc) (fun h => sq rfl (sqB (ctx := fun (v_rates_7 : (List Rat)) => [.io (Std.eStm v_stream_here), .fz (D.str v_kind), zI v_stands, zI v_most, .ow ((eL fq) v_rates_7), .un, .un, .un]) (sSetO (repO (F := fq) (xs := ([(0 : Rat)] : List Rat)) (mfz (mlst (a1 (mtup (a1 rfl (a1 rfl a0))) a0))) (vf 2 rfl) h.1) rfl) h.2 (fun v_rates_7 h => sqB (ctx := fun (z11 : (Std.Stm × (List Rat))) => [.io (Std.eStm z11.1), .fz (D.str v_kind), zI v_stands, zI v_most, .ow ((eL fq) z11.2), .un, .un, .un]) (S := fun _ => True) (forN (F := D.int) (ctx := fun (z8 : (Std.Stm × (List Rat))) => [.io (Std.eStm z8.1), .fz (D.str v_kind), zI v_stands, zI v_most, .ow ((eL fq) z8.2), .un, .un, .un]) (i_r1 (a1 (b2 rfl (mfz (cN (x1s (i := 0) rfl rfl (x1 (vf 2 rfl) x0)) rfl rfl (Std.e__law_take (s := v_stream_here) (most := v_stands) h.1 :) rfl)) rfl) a0) h.2.1) h.2.2 (fun z8 xv9 h => ⟨_, rfl, sqB (ctx := fun (z10 : (Std.Stm × (List Rat))) => [.io (Std.eStm z10.1), .fz (D.str v_kind), zI v_stands, zI v_most, .ow ((eL fq) z10.2), zI xv9, .un, .un]) (S := fun _ => True) (sPutO (i := 4) (F := fq) (xs := z8.2) (v := (t__law_some z8.1 v_most).1) (mfz (cN (x1s (i := 0) rfl rfl (x1 (vf 3 rfl) x0)) rfl rfl (e__law_some (v_stream_here := z8.1) (v_most := v_most) h.1 :) rfl)) (mfz (cN (x1s (i := 0) rfl rfl (x1 (vf 2 rfl) x0)) rfl rfl (Std.e__law_take (s := (t__law_some z8.1 v_most).2) (most := v_stands) h.2.1 :) rfl)) rfl rfl h.2.2 rfl) trivial (fun z10 _ => sq (sKill (show _ = [.io (Std.eStm z10.1), .fz (D.str v_kind), zI v_stands, zI v_most, .ow ((eL fq) z10.2), .un, .un, .un] from rfl)) rfl)⟩)) trivial (fun z11 _ => sq (sFrz (i := 4) rfl (show _ = [.io (Std.eStm z11.1), .fz (D.str v_kind), zI v_stands, zI v_most, zL z11.2, .un, .un, .un] from rfl)) (sRet (mof (mtup (a1 rfl (a1 (vf 4 rfl) a0)))) (ji_mk rfl rfl)))))))
noncomputable def fb__law_any : M Fl :=
  mSeq (mSet 2 (mOf (mBin dIx (mFz (mLst (mCons (M.pure (.str "wide")) (mCons (M.pure (.str "tight")) (mCons (M.pure (.str "shut")) mNil))))) (mFz (mCallN 2 (some 0) Std.fn__law_take (xS 0 (xV (M.pure (.int 3)) xNil)))))))
    (mSeq (mSet 3 (mOf (mBin dAdd (M.pure (.int 1)) (mFz (mCallN 2 (some 0) Std.fn__law_take (xS 0 (xV (M.pure (.int 8)) xNil)))))))
    (mSeq (mSet 4 (mOf (mBin dAdd (mVar 3) (mFz (mCallN 2 (some 0) Std.fn__law_take (xS 0 (xV (mBin dSub (M.pure (.int 13)) (mVar 3)) xNil)))))))
    (mSeq (mSet 5 (mLc [7] (mRange1 (mCons (mVar 3) mNil)) (gN 7) (M.pure true) (mFz (mCallN 3 (some 0) fn__law_line (xS 0 (xV (mVar 2) (xV (mVar 1) xNil)))))))
    (mSeq (mSet 6 (mLst mNil))
    (mSeq (mFor (mRange1 (mCons (mVar 4) mNil)) (gN 7) (mSeq (mSet 8 (mOf (mVar 7)))
    (mSeq (mIf (mTest (mBin dGe (mVar 7) (mVar 3))) (mSeq (mSet 8 (mCallN 2 (some 0) Std.fn__law_take (xS 0 (xV (mVar 3) xNil))))
    mNx) mNx)
    (mSeq (mApp1 6 (mTup (mCons (mVar 8) (mCons (mFz (mCallN 2 (some 0) fn__law_some (xS 0 (xV (mVar 1) xNil)))) (mCons (mFz (mCallN 3 (some 0) fn__law_goes (xS 0 (xV (mVar 4) (xV (mBin dEq (mVar 2) (M.pure (.str "shut"))) xNil))))) mNil)))))
    (mSeq (mKill [7, 8]) mNx)))))
    (mSeq (mFrz 5)
    (mSeq (mFrz 6)
    (mRet (mOf (mTup (mCons (mVar 5) (mCons (mVar 6) (mCons (mFz (mCallN 4 (some 0) fn__law_comers (xS 0 (xV (mVar 2) (xV (mVar 4) (xV (mVar 1) xNil)))))) mNil)))))))))))))
noncomputable def fn__law_any : List D → Rf := runF (some 0) 9 fb__law_any
noncomputable def t__law_any (v_stream_here : Std.Stm) (v_most : Int) : (Net × Std.Stm) :=
  bd ((Std.t__law_take v_stream_here ((3 : Int))).2, (ix (([("wide" : Str), ("tight" : Str), ("shut" : Str)] : List Str)) ((Std.t__law_take v_stream_here ((3 : Int))).1))) (fun (z1 : (Std.Stm × Str)) => bd ((Std.t__law_take z1.1 ((8 : Int))).2, ((1 : Int) + (Std.t__law_take z1.1 ((8 : Int))).1)) (fun (z2 : (Std.Stm × Int)) => bd ((Std.t__law_take z2.1 (((13 : Int) - z2.2))).2, (z2.2 + (Std.t__law_take z2.1 (((13 : Int) - z2.2))).1)) (fun (z3 : (Std.Stm × Int)) => bd ((lcS (fun (xv4 : Int) (s5 : Std.Stm) => (true, s5)) (fun (xv4 : Int) (s5 : Std.Stm) => ((t__law_line s5 z1.2 v_most).1, (t__law_line s5 z1.2 v_most).2)) (rangeI 0 z2.2) z3.1).2, (lcS (fun (xv4 : Int) (s5 : Std.Stm) => (true, s5)) (fun (xv4 : Int) (s5 : Std.Stm) => ((t__law_line s5 z1.2 v_most).1, (t__law_line s5 z1.2 v_most).2)) (rangeI 0 z2.2) z3.1).1) (fun (z8 : (Std.Stm × (List Line))) => bd ([] : List Stand) (fun (v_made_9 : (List Stand)) => bd ((rangeI 0 z3.2).foldl (fun (z10 : (Std.Stm × (List Stand))) (xv11 : Int) => bd xv11 (fun (v_line_here_12 : Int) => bd (cond (decide (z2.2 ≤ xv11)) (bd ((Std.t__law_take z10.1 z2.2).2, (Std.t__law_take z10.1 z2.2).1) (fun (z14 : (Std.Stm × Int)) => (z14.1, z14.2))) (z10.1, v_line_here_12)) (fun (z16 : (Std.Stm × Int)) => bd ((t__law_goes ((t__law_some z16.1 v_most).2) z3.2 ((decide (z1.2 = ("shut" : Str))))).2, (z10.2 ++ [(z16.2, (t__law_some z16.1 v_most).1, (t__law_goes ((t__law_some z16.1 v_most).2) z3.2 ((decide (z1.2 = ("shut" : Str))))).1)])) (fun (z17 : (Std.Stm × (List Stand))) => (z17.1, z17.2))))) (z8.1, v_made_9)) (fun (z18 : (Std.Stm × (List Stand))) => ((z8.2, z18.2, (t__law_comers z18.1 z1.2 z3.2 v_most).1), (t__law_comers z18.1 z1.2 z3.2 v_most).2)))))))
def s__law_any (v_stream_here : Std.Stm) (v_most : Int) : Prop :=
  ((InB (([("wide" : Str), ("tight" : Str), ("shut" : Str)] : List Str)).length ((Std.t__law_take v_stream_here ((3 : Int))).1)) ∧ (bd ((Std.t__law_take v_stream_here ((3 : Int))).2, (ix (([("wide" : Str), ("tight" : Str), ("shut" : Str)] : List Str)) ((Std.t__law_take v_stream_here ((3 : Int))).1))) (fun (z1 : (Std.Stm × Str)) => bd ((Std.t__law_take z1.1 ((8 : Int))).2, ((1 : Int) + (Std.t__law_take z1.1 ((8 : Int))).1)) (fun (z2 : (Std.Stm × Int)) => ((0 < (((13 : Int) - z2.2))) ∧ (bd ((Std.t__law_take z2.1 (((13 : Int) - z2.2))).2, (z2.2 + (Std.t__law_take z2.1 (((13 : Int) - z2.2))).1)) (fun (z3 : (Std.Stm × Int)) => ((-100000000 < z2.2 ∧ z2.2 < 100000000) ∧ (slcS (fun (xv4 : Int) (s5 : Std.Stm) => (true, s5)) (fun (xv4 : Int) (s5 : Std.Stm) => ((t__law_line s5 z1.2 v_most).1, (t__law_line s5 z1.2 v_most).2)) (fun (xv4 : Int) (s5 : Std.Stm) => ((s__law_line s5 z1.2 v_most))) (rangeI 0 z2.2) z3.1) ∧ (((rangeI 0 z2.2)).length ≤ 10000) ∧ (bd ((lcS (fun (xv4 : Int) (s5 : Std.Stm) => (true, s5)) (fun (xv4 : Int) (s5 : Std.Stm) => ((t__law_line s5 z1.2 v_most).1, (t__law_line s5 z1.2 v_most).2)) (rangeI 0 z2.2) z3.1).2, (lcS (fun (xv4 : Int) (s5 : Std.Stm) => (true, s5)) (fun (xv4 : Int) (s5 : Std.Stm) => ((t__law_line s5 z1.2 v_most).1, (t__law_line s5 z1.2 v_most).2)) (rangeI 0 z2.2) z3.1).1) (fun (z8 : (Std.Stm × (List Line))) => bd ([] : List Stand) (fun (v_made_9 : (List Stand)) => ((-100000000 < z3.2 ∧ z3.2 < 100000000) ∧ (sfl (fun (z10 : (Std.Stm × (List Stand))) (xv11 : Int) => bd xv11 (fun (v_line_here_12 : Int) => bd (cond (decide (z2.2 ≤ xv11)) (bd ((Std.t__law_take z10.1 z2.2).2, (Std.t__law_take z10.1 z2.2).1) (fun (z14 : (Std.Stm × Int)) => (z14.1, z14.2))) (z10.1, v_line_here_12)) (fun (z16 : (Std.Stm × Int)) => bd ((t__law_goes ((t__law_some z16.1 v_most).2) z3.2 ((decide (z1.2 = ("shut" : Str))))).2, (z10.2 ++ [(z16.2, (t__law_some z16.1 v_most).1, (t__law_goes ((t__law_some z16.1 v_most).2) z3.2 ((decide (z1.2 = ("shut" : Str))))).1)])) (fun (z17 : (Std.Stm × (List Stand))) => (z17.1, z17.2))))) (fun (z10 : (Std.Stm × (List Stand))) (xv11 : Int) => bd xv11 (fun (v_line_here_12 : Int) => (((decide (z2.2 ≤ xv11)) = true → (0 < z2.2)) ∧ (bd (cond (decide (z2.2 ≤ xv11)) (bd ((Std.t__law_take z10.1 z2.2).2, (Std.t__law_take z10.1 z2.2).1) (fun (z14 : (Std.Stm × Int)) => (z14.1, z14.2))) (z10.1, v_line_here_12)) (fun (z16 : (Std.Stm × Int)) => ((s__law_some z16.1 v_most) ∧ (s__law_goes ((t__law_some z16.1 v_most).2) z3.2 ((decide (z1.2 = ("shut" : Str))))) ∧ (z10.2.length < 10000))))))) (rangeI 0 z3.2) (z8.1, v_made_9)) ∧ (bd ((rangeI 0 z3.2).foldl (fun (z10 : (Std.Stm × (List Stand))) (xv11 : Int) => bd xv11 (fun (v_line_here_12 : Int) => bd (cond (decide (z2.2 ≤ xv11)) (bd ((Std.t__law_take z10.1 z2.2).2, (Std.t__law_take z10.1 z2.2).1) (fun (z14 : (Std.Stm × Int)) => (z14.1, z14.2))) (z10.1, v_line_here_12)) (fun (z16 : (Std.Stm × Int)) => bd ((t__law_goes ((t__law_some z16.1 v_most).2) z3.2 ((decide (z1.2 = ("shut" : Str))))).2, (z10.2 ++ [(z16.2, (t__law_some z16.1 v_most).1, (t__law_goes ((t__law_some z16.1 v_most).2) z3.2 ((decide (z1.2 = ("shut" : Str))))).1)])) (fun (z17 : (Std.Stm × (List Stand))) => (z17.1, z17.2))))) (z8.1, v_made_9)) (fun (z18 : (Std.Stm × (List Stand))) => (s__law_comers z18.1 z1.2 z3.2 v_most)))))))))))))))
theorem e__law_any {v_stream_here : Std.Stm} {v_most : Int} (h : s__law_any v_stream_here v_most) : fn__law_any [Std.eStm v_stream_here, D.int v_most] = .ok (eNet (t__law_any v_stream_here v_most).1) .ff (Std.eStm (t__law_any v_stream_here v_most).2) := by
  refine runI (F := eNet) (G := Std.eStm) (o := .ff) (fb := fb__law_any) (x := t__law_any v_stream_here v_most) ?_
  show JI 0 eNet Std.eStm .ff (fb__law_any [.io (Std.eStm v_stream_here), zI v_most, .un, .un, .un, .un, .un, .un, .un]) _
  delta fb__law_any t__law_any
  delta s__law_any at h
  exact sqB (ctx := fun (z1 : (Std.Stm × Str)) => [.io (Std.eStm z1.1), zI v_most, .fz (D.str z1.2), .un, .un, .un, .un, .un, .un]) (sSet (mof (b2 (mfz (mlst (a1 rfl (a1 rfl (a1 rfl a0))))) (mfz (cN (x1s (i := 0) rfl rfl (x1 rfl x0)) rfl rfl (Std.e__law_take (s := v_stream_here) (most := (3 : Int)) (show 0 < ((3 : Int)) by decide) :) rfl)) (o_ixL (F := D.str) (xs := ([("wide" : Str), ("tight" : Str), ("shut" : Str)] : List Str)) h.1))) rfl) h.2 (fun z1 h => sqB (ctx := fun (z2 : (Std.Stm × Int)) => [.io (Std.eStm z2.1), zI v_most, .fz (D.str z1.2), zI z2.2, .un, .un, .un, .un, .un]) (sSet (mof (b2 rfl (mfz (cN (x1s (i := 0) rfl rfl (x1 rfl x0)) rfl rfl (Std.e__law_take (s := z1.1) (most := (8 : Int)) (show 0 < ((8 : Int)) by decide) :) rfl)) rfl)) rfl) h (fun z2 h => sqB (ctx := fun (z3 : (Std.Stm × Int)) => [.io (Std.eStm z3.1), zI v_most, .fz (D.str z1.2), zI z2.2, zI z3.2, .un, .un, .un, .un]) (sSet (mof (b2 (vf 3 rfl) (mfz (cN (x1s (i := 0) rfl rfl (x1 (b2 rfl (vf 3 rfl) rfl) x0)) rfl rfl (Std.e__law_take (s := z2.1) (most := ((13 : Int) - z2.2)) h.1 :) rfl)) rfl)) rfl) h.2 (fun z3 h => sqB (ctx := fun (z8 : (Std.Stm × (List Line))) => [.io (Std.eStm z8.1), zI v_most, .fz (D.str z1.2), zI z2.2, zI z3.2, .ow ((eL eLine) z8.2), .un, .un, .un]) (sSetO (lcSt (F := D.int) (G := eLine) (p := (fun (xv4 : Int) (s5 : Std.Stm) => (true, s5))) (φ := (fun (xv4 : Int) (s5 : Std.Stm) => ((t__law_line s5 z1.2 v_most).1, (t__law_line s5 z1.2 v_most).2))) (S := (fun (xv4 : Int) (s5 : Std.Stm) => ((s__law_line s5 z1.2 v_most)))) (ctx := fun s_ => [.io (Std.eStm s_), zI v_most, .fz (D.str z1.2), zI z2.2, zI z3.2, .un, .un, .un, .un]) (ctx9 := fun s_ => [.io (Std.eStm s_), zI v_most, .fz (D.str z1.2), zI z2.2, zI z3.2, .un, .un, .un, .un]) (s := z3.1) (i_r1 (a1 (vf 3 rfl) a0) h.1) rfl h.2.1 (fun xv4 s5 hs6 => ⟨fun s_ => [.io (Std.eStm s_), zI v_most, .fz (D.str z1.2), zI z2.2, zI z3.2, .un, .un, zI xv4, .un], rfl, rfl, fun _ => rfl, fun hc7 => mfz (cN (x1s (i := 0) rfl rfl (x1 (vf 2 rfl) (x1 (vf 1 rfl) x0))) rfl rfl (e__law_line (v_stream_here := s5) (v_kind := z1.2) (v_most := v_most) hs6 :) rfl)⟩) h.2.2.1 (fun _ => rfl)) rfl) h.2.2.2 (fun z8 h => sqB (ctx := fun (v_made_9 : (List Stand)) => [.io (Std.eStm z8.1), zI v_most, .fz (D.str z1.2), zI z2.2, zI z3.2, .ow ((eL eLine) z8.2), .ow ((eL eStand) v_made_9), .un, .un]) (sSetO (mlst a0) rfl) h (fun v_made_9 h => sqB (ctx := fun (z18 : (Std.Stm × (List Stand))) => [.io (Std.eStm z18.1), zI v_most, .fz (D.str z1.2), zI z2.2, zI z3.2, .ow ((eL eLine) z8.2), .ow ((eL eStand) z18.2), .un, .un]) (forN (F := D.int) (ctx := fun (z10 : (Std.Stm × (List Stand))) => [.io (Std.eStm z10.1), zI v_most, .fz (D.str z1.2), zI z2.2, zI z3.2, .ow ((eL eLine) z8.2), .ow ((eL eStand) z10.2), .un, .un]) (i_r1 (a1 (vf 4 rfl) a0) h.1) h.2.1 (fun z10 xv11 h => ⟨_, rfl, sqB (ctx := fun (v_line_here_12 : Int) => [.io (Std.eStm z10.1), zI v_most, .fz (D.str z1.2), zI z2.2, zI z3.2, .ow ((eL eLine) z8.2), .ow ((eL eStand) z10.2), zI xv11, zI v_line_here_12]) (sSet (mof (vf 7 rfl)) rfl) h (fun v_line_here_12 h => sqB (ctx := fun (z16 : (Std.Stm × Int)) => [.io (Std.eStm z16.1), zI v_most, .fz (D.str z1.2), zI z2.2, zI z3.2, .ow ((eL eLine) z8.2), .ow ((eL eStand) z10.2), zI xv11, zI z16.2]) (ifJ (ctx := fun (z15 : (Std.Stm × Int)) => [.io (Std.eStm z15.1), zI v_most, .fz (D.str z1.2), zI z2.2, zI z3.2, .ow ((eL eLine) z8.2), .ow ((eL eStand) z10.2), zI xv11, zI z15.2]) (v := bd ((Std.t__law_take z10.1 z2.2).2, (Std.t__law_take z10.1 z2.2).1) (fun (z14 : (Std.Stm × Int)) => (z14.1, z14.2))) (w := (z10.1, v_line_here_12)) (tst (b2 (vf 7 rfl) (vf 3 rfl) rfl)) (fun hc => (bdh (h.1 hc) (fun h => jnE (ctx := fun (z15 : (Std.Stm × Int)) => [.io (Std.eStm z15.1), zI v_most, .fz (D.str z1.2), zI z2.2, zI z3.2, .ow ((eL eLine) z8.2), .ow ((eL eStand) z10.2), zI xv11, zI z15.2]) (s := bd ((Std.t__law_take z10.1 z2.2).2, (Std.t__law_take z10.1 z2.2).1) (fun (z14 : (Std.Stm × Int)) => (z14.1, z14.2))) (sqB (ctx := fun (z14 : (Std.Stm × Int)) => [.io (Std.eStm z14.1), zI v_most, .fz (D.str z1.2), zI z2.2, zI z3.2, .ow ((eL eLine) z8.2), .ow ((eL eStand) z10.2), zI xv11, zI z14.2]) (S := fun _ => True) (sSet (cN (x1s (i := 0) rfl rfl (x1 (vf 3 rfl) x0)) rfl rfl (Std.e__law_take (s := z10.1) (most := z2.2) h :) rfl) rfl) trivial (fun z14 _ => rfl))))) (fun _ => jnE (ctx := fun (z15 : (Std.Stm × Int)) => [.io (Std.eStm z15.1), zI v_most, .fz (D.str z1.2), zI z2.2, zI z3.2, .ow ((eL eLine) z8.2), .ow ((eL eStand) z10.2), zI xv11, zI z15.2]) (s := (z10.1, v_line_here_12)) rfl)) h.2 (fun z16 h => sqB (ctx := fun (z17 : (Std.Stm × (List Stand))) => [.io (Std.eStm z17.1), zI v_most, .fz (D.str z1.2), zI z2.2, zI z3.2, .ow ((eL eLine) z8.2), .ow ((eL eStand) z17.2), zI xv11, zI z16.2]) (S := fun _ => True) (sApp (i := 6) (F := eStand) (xs := z10.2) (v := (z16.2, (t__law_some z16.1 v_most).1, (t__law_goes ((t__law_some z16.1 v_most).2) z3.2 ((decide (z1.2 = ("shut" : Str))))).1)) (mtup (a1 (vf 8 rfl) (a1 (mfz (cN (x1s (i := 0) rfl rfl (x1 (vf 1 rfl) x0)) rfl rfl (e__law_some (v_stream_here := z16.1) (v_most := v_most) h.1 :) rfl)) (a1 (mfz (cN (x1s (i := 0) rfl rfl (x1 (vf 4 rfl) (x1 (b2 (vf 2 rfl) rfl dEq_s) x0))) rfl rfl (e__law_goes (v_stream_here := (t__law_some z16.1 v_most).2) (v_stands := z3.2) (v_full := (decide (z1.2 = ("shut" : Str)))) h.2.1 :) rfl)) a0)))) ⟨_, rfl⟩ rfl h.2.2 rfl) trivial (fun z17 _ => sq (sKill (show _ = [.io (Std.eStm z17.1), zI v_most, .fz (D.str z1.2), zI z2.2, zI z3.2, .ow ((eL eLine) z8.2), .ow ((eL eStand) z17.2), .un, .un] from rfl)) rfl)))⟩)) h.2.2 (fun z18 h => sq (sFrz (i := 5) rfl (show _ = [.io (Std.eStm z18.1), zI v_most, .fz (D.str z1.2), zI z2.2, zI z3.2, .fz ((eL eLine) z8.2), .ow ((eL eStand) z18.2), .un, .un] from rfl)) (sq (sFrz (i := 6) rfl (show _ = [.io (Std.eStm z18.1), zI v_most, .fz (D.str z1.2), zI z2.2, zI z3.2, .fz ((eL eLine) z8.2), .fz ((eL eStand) z18.2), .un, .un] from rfl)) (sRet (mof (mtup (a1 (vf 5 rfl) (a1 (vf 6 rfl) (a1 (mfz (cN (x1s (i := 0) rfl rfl (x1 (vf 2 rfl) (x1 (vf 4 rfl) (x1 (vf 1 rfl) x0)))) rfl rfl (e__law_comers (v_stream_here := z18.1) (v_kind := z1.2) (v_stands := z3.2) (v_most := v_most) h :) rfl)) a0))))) (ji_mk rfl rfl)))))))))
noncomputable def fb__law_number : M Fl :=
  mSeq (mIf (mTest (mBin dEq (mBin dIx (mVar 0) (M.pure (.int 1))) (M.pure (.int 1)))) (mRet (mOf (mCall dStr (mCons (mBin dIx (mVar 0) (M.pure (.int 0))) mNil)))) mNx)
    (mRet (mOf (mBin dAdd (mBin dAdd (mCall dStr (mCons (mBin dIx (mVar 0) (M.pure (.int 0))) mNil)) (M.pure (.str "/"))) (mCall dStr (mCons (mBin dIx (mVar 0) (M.pure (.int 1))) mNil)))))
noncomputable def fn__law_number : List D → Rf := runF none 1 fb__law_number
noncomputable def t__law_number (v_one : Rat) : Str :=
  cond (decide ((v_one.den : Int) = (1 : Int))) (strI v_one.num) (((strI v_one.num) ++ ("/" : Str)) ++ (strI ((v_one.den : Int))))
def s__law_number (v_one : Rat) : Prop :=
  (((decide ((v_one.den : Int) = (1 : Int))) = true → (-1000000000 < v_one.num ∧ v_one.num < 1000000000)) ∧ ((decide ((v_one.den : Int) = (1 : Int))) = false → ((-1000000000 < v_one.num ∧ v_one.num < 1000000000) ∧ (((strI v_one.num)).length + (("/" : Str)).length ≤ 10000000) ∧ (-1000000000 < ((v_one.den : Int)) ∧ ((v_one.den : Int)) < 1000000000) ∧ ((((strI v_one.num) ++ ("/" : Str))).length + ((strI ((v_one.den : Int)))).length ≤ 10000000))))
theorem e__law_number {v_one : Rat} (h : s__law_number v_one) : fn__law_number [fq v_one] = .ok (D.str (t__law_number v_one)) .ff .non := by
  refine run0 (F := D.str) (o := .ff) (fb := fb__law_number) (x := t__law_number v_one) ?_
  show JR D.str .ff (fb__law_number [zQ v_one]) _
  delta fb__law_number t__law_number
  delta s__law_number at h
  exact sqIf (tst (b2 (b2 (vf 0 rfl) rfl rfl) rfl dEq_i)) (fun hc => bdh (h.1 hc) (fun h => sqRet (mof (c1 (a1 (b2 (vf 0 rfl) rfl rfl) a0) (o_str h))) (jr_mk rfl))) (fun hc => bdh (h.2 hc) (fun h => sq rfl (sRet (mof (b2 (b2 (c1 (a1 (b2 (vf 0 rfl) rfl rfl) a0) (o_str h.1)) rfl (o_addS h.2.1)) (c1 (a1 (b2 (vf 0 rfl) rfl rfl) a0) (o_str h.2.2.1)) (o_addS h.2.2.2))) (jr_mk rfl))))
noncomputable def fb__law_line_row : M Fl :=
  mSeq (mSet 1 (mOf (M.pure (.str "line speeds"))))
    (mSeq (mFor (mIter (mBin dIx (mVar 0) (M.pure (.int 0)))) (gN 2) (mSeq (mSet 1 (mOf (mBin dAdd (mBin dAdd (mVar 1) (M.pure (.str " "))) (mFz (mCallN 1 none fn__law_number (xV (mVar 2) xNil))))))
    (mSeq (mKill [2]) mNx)))
    (mSeq (mIf (mTest (mBin dNe (mBin dIx (mVar 0) (M.pure (.int 1))) (mTup (mCons (M.pure (.int 0)) (mCons (M.pure (.int 1)) mNil))))) (mSeq (mSet 1 (mOf (mBin dAdd (mBin dAdd (mVar 1) (M.pure (.str " more "))) (mFz (mCallN 1 none fn__law_number (xV (mBin dIx (mVar 0) (M.pure (.int 1))) xNil))))))
    mNx) mNx)
    (mSeq (mIf (mTest (mBin dGt (mBin dIx (mVar 0) (M.pure (.int 2))) (M.pure (.int 0)))) (mSeq (mSet 1 (mOf (mBin dAdd (mBin dAdd (mBin dAdd (mBin dAdd (mVar 1) (M.pure (.str " room "))) (mCall dStr (mCons (mBin dIx (mVar 0) (M.pure (.int 2))) mNil))) (M.pure (.str " "))) (mBin dIx (mVar 0) (M.pure (.int 3))))))
    mNx) mNx)
    (mRet (mMove 1)))))
noncomputable def fn__law_line_row : List D → Rf := runF none 3 fb__law_line_row
noncomputable def t__law_line_row (v_line_here : Line) : Str :=
  bd ("line speeds" : Str) (fun (v_row_1 : Str) => bd (v_line_here.1.foldl (fun (z2 : Str) (xv3 : Rat) => bd ((z2 ++ (" " : Str)) ++ (t__law_number xv3)) (fun (v_row_4 : Str) => v_row_4)) v_row_1) (fun (z5 : Str) => bd (cond (!decide (v_line_here.2.1 = (0 : Rat))) (bd ((z5 ++ (" more " : Str)) ++ (t__law_number v_line_here.2.1)) (fun (v_row_7 : Str) => v_row_7)) z5) (fun (z9 : Str) => bd (cond (decide ((0 : Int) < v_line_here.2.2.1)) (bd ((((z9 ++ (" room " : Str)) ++ (strI v_line_here.2.2.1)) ++ (" " : Str)) ++ v_line_here.2.2.2) (fun (v_row_11 : Str) => v_row_11)) z9) (fun (z13 : Str) => z13))))
def s__law_line_row (v_line_here : Line) : Prop :=
  bd ("line speeds" : Str) (fun (v_row_1 : Str) => ((sfl (fun (z2 : Str) (xv3 : Rat) => bd ((z2 ++ (" " : Str)) ++ (t__law_number xv3)) (fun (v_row_4 : Str) => v_row_4)) (fun (z2 : Str) (xv3 : Rat) => ((z2.length + ((" " : Str)).length ≤ 10000000) ∧ (s__law_number xv3) ∧ (((z2 ++ (" " : Str))).length + ((t__law_number xv3)).length ≤ 10000000))) v_line_here.1 v_row_1) ∧ (bd (v_line_here.1.foldl (fun (z2 : Str) (xv3 : Rat) => bd ((z2 ++ (" " : Str)) ++ (t__law_number xv3)) (fun (v_row_4 : Str) => v_row_4)) v_row_1) (fun (z5 : Str) => (((!decide (v_line_here.2.1 = (0 : Rat))) = true → ((z5.length + ((" more " : Str)).length ≤ 10000000) ∧ (s__law_number v_line_here.2.1) ∧ (((z5 ++ (" more " : Str))).length + ((t__law_number v_line_here.2.1)).length ≤ 10000000))) ∧ (bd (cond (!decide (v_line_here.2.1 = (0 : Rat))) (bd ((z5 ++ (" more " : Str)) ++ (t__law_number v_line_here.2.1)) (fun (v_row_7 : Str) => v_row_7)) z5) (fun (z9 : Str) => ((decide ((0 : Int) < v_line_here.2.2.1)) = true → ((z9.length + ((" room " : Str)).length ≤ 10000000) ∧ (-1000000000 < v_line_here.2.2.1 ∧ v_line_here.2.2.1 < 1000000000) ∧ (((z9 ++ (" room " : Str))).length + ((strI v_line_here.2.2.1)).length ≤ 10000000) ∧ ((((z9 ++ (" room " : Str)) ++ (strI v_line_here.2.2.1))).length + ((" " : Str)).length ≤ 10000000) ∧ (((((z9 ++ (" room " : Str)) ++ (strI v_line_here.2.2.1)) ++ (" " : Str))).length + v_line_here.2.2.2.length ≤ 10000000))))))))))
theorem e__law_line_row {v_line_here : Line} (h : s__law_line_row v_line_here) : fn__law_line_row [eLine v_line_here] = .ok (D.str (t__law_line_row v_line_here)) .ff .non := by
  refine run0 (F := D.str) (o := .ff) (fb := fb__law_line_row) (x := t__law_line_row v_line_here) ?_
  show JR D.str .ff (fb__law_line_row [.fz (eLine v_line_here), .un, .un]) _
  delta fb__law_line_row t__law_line_row
  delta s__law_line_row at h
  exact sqB (ctx := fun (v_row_1 : Str) => [.fz (eLine v_line_here), .fz (D.str v_row_1), .un]) (sSet (mof rfl) rfl) h (fun v_row_1 h => sqB (ctx := fun (z5 : Str) => [.fz (eLine v_line_here), .fz (D.str z5), .un]) (forN (F := fq) (ctx := fun (z2 : Str) => [.fz (eLine v_line_here), .fz (D.str z2), .un]) (i_L (F := fq) (b2 (vf 0 rfl) rfl rfl)) h.1 (fun z2 xv3 h => ⟨_, rfl, sqB (ctx := fun (v_row_4 : Str) => [.fz (eLine v_line_here), .fz (D.str v_row_4), zQ xv3]) (S := fun _ => True) (sSet (mof (b2 (b2 (vf 1 rfl) rfl (o_addS h.1)) (mfz (cN (x1 (vf 2 rfl) x0) rfl rfl (e__law_number (v_one := xv3) h.2.1 :) rfl)) (o_addS h.2.2))) rfl) trivial (fun v_row_4 _ => sq (sKill (show _ = [.fz (eLine v_line_here), .fz (D.str v_row_4), .un] from rfl)) rfl)⟩)) h.2 (fun z5 h => sqB (ctx := fun (z9 : Str) => [.fz (eLine v_line_here), .fz (D.str z9), .un]) (ifJ (ctx := fun (z8 : Str) => [.fz (eLine v_line_here), .fz (D.str z8), .un]) (v := bd ((z5 ++ (" more " : Str)) ++ (t__law_number v_line_here.2.1)) (fun (v_row_7 : Str) => v_row_7)) (w := z5) (tst (b2 (b2 (vf 0 rfl) rfl rfl) (mtup (a1 rfl (a1 rfl a0))) ((o_ne (F := fq) (x := v_line_here.2.1) (y := (0 : Rat)) gQ)))) (fun hc => (bdh (h.1 hc) (fun h => jnE (ctx := fun (z8 : Str) => [.fz (eLine v_line_here), .fz (D.str z8), .un]) (s := bd ((z5 ++ (" more " : Str)) ++ (t__law_number v_line_here.2.1)) (fun (v_row_7 : Str) => v_row_7)) (sqB (ctx := fun (v_row_7 : Str) => [.fz (eLine v_line_here), .fz (D.str v_row_7), .un]) (S := fun _ => True) (sSet (mof (b2 (b2 (vf 1 rfl) rfl (o_addS h.1)) (mfz (cN (x1 (b2 (vf 0 rfl) rfl rfl) x0) rfl rfl (e__law_number (v_one := v_line_here.2.1) h.2.1 :) rfl)) (o_addS h.2.2))) rfl) trivial (fun v_row_7 _ => rfl))))) (fun _ => jnE (ctx := fun (z8 : Str) => [.fz (eLine v_line_here), .fz (D.str z8), .un]) (s := z5) rfl)) h.2 (fun z9 h => sqB (ctx := fun (z13 : Str) => [.fz (eLine v_line_here), .fz (D.str z13), .un]) (S := fun _ => True) (ifJ (ctx := fun (z12 : Str) => [.fz (eLine v_line_here), .fz (D.str z12), .un]) (v := bd ((((z9 ++ (" room " : Str)) ++ (strI v_line_here.2.2.1)) ++ (" " : Str)) ++ v_line_here.2.2.2) (fun (v_row_11 : Str) => v_row_11)) (w := z9) (tst (b2 (b2 (vf 0 rfl) rfl rfl) rfl rfl)) (fun hc => (bdh (h hc) (fun h => jnE (ctx := fun (z12 : Str) => [.fz (eLine v_line_here), .fz (D.str z12), .un]) (s := bd ((((z9 ++ (" room " : Str)) ++ (strI v_line_here.2.2.1)) ++ (" " : Str)) ++ v_line_here.2.2.2) (fun (v_row_11 : Str) => v_row_11)) (sqB (ctx := fun (v_row_11 : Str) => [.fz (eLine v_line_here), .fz (D.str v_row_11), .un]) (S := fun _ => True) (sSet (mof (b2 (b2 (b2 (b2 (vf 1 rfl) rfl (o_addS h.1)) (c1 (a1 (b2 (vf 0 rfl) rfl rfl) a0) (o_str h.2.1)) (o_addS h.2.2.1)) rfl (o_addS h.2.2.2.1)) (b2 (vf 0 rfl) rfl rfl) (o_addS h.2.2.2.2))) rfl) trivial (fun v_row_11 _ => rfl))))) (fun _ => jnE (ctx := fun (z12 : Str) => [.fz (eLine v_line_here), .fz (D.str z12), .un]) (s := z9) rfl)) trivial (fun z13 _ => sRet (mv_fz (i := 1) rfl) (jr_mk rfl)))))
noncomputable def fb__law_stand_row : M Fl :=
  mSeq (mSet 3 (mOf (mBin dAdd (mBin dAdd (mBin dAdd (M.pure (.str "stand ")) (mCall dStr (mCons (mBin dIx (mVar 0) (M.pure (.int 0))) mNil))) (M.pure (.str " rate "))) (mFz (mCallN 1 none fn__law_number (xV (mBin dIx (mVar 0) (M.pure (.int 1))) xNil))))))
    (mSeq (mIf (mAnd (mTest (mBin dEq (mVar 1) (M.pure (.str "open")))) (mTest (mBin dNe (mVar 2) (mTup (mCons (M.pure (.int 0)) (mCons (M.pure (.int 1)) mNil)))))) (mSeq (mSet 3 (mOf (mBin dAdd (mBin dAdd (mVar 3) (M.pure (.str " comes "))) (mFz (mCallN 1 none fn__law_number (xV (mVar 2) xNil))))))
    mNx) mNx)
    (mSeq (mIf (mAnd (mTest (mBin dEq (mVar 1) (M.pure (.str "shut")))) (mTest (mBin dGt (mVar 2) (M.pure (.int 0))))) (mSeq (mSet 3 (mOf (mBin dAdd (mBin dAdd (mVar 3) (M.pure (.str " begins "))) (mCall dStr (mCons (mVar 2) mNil)))))
    mNx) mNx)
    (mSeq (mFor (mIter (mBin dIx (mVar 0) (M.pure (.int 2)))) (gT 2 (gsC (gN 4) (gsC (gN 5) gsN))) (mSeq (mSet 3 (mOf (mBin dAdd (mBin dAdd (mBin dAdd (mBin dAdd (mVar 3) (M.pure (.str " to "))) (mCall dStr (mCons (mVar 4) mNil))) (M.pure (.str " "))) (mFz (mCallN 1 none fn__law_number (xV (mVar 5) xNil))))))
    (mSeq (mKill [4, 5]) mNx)))
    (mRet (mMove 3)))))
noncomputable def fn__law_stand_row : List D → Rf := runF none 6 fb__law_stand_row
noncomputable def t__law_stand_row (v_stand : Stand) (v_kind : Str) (v_number_here : NE) : Str :=
  bd (((("stand " : Str) ++ (strI v_stand.1)) ++ (" rate " : Str)) ++ (t__law_number v_stand.2.1)) (fun (v_row_1 : Str) => bd (cond ((decide (v_kind = ("open" : Str))) && (neqQ v_number_here ((mkq (((0 : Int), (1 : Int))))))) (bd ((v_row_1 ++ (" comes " : Str)) ++ (t__law_number ((neQ v_number_here)))) (fun (v_row_4 : Str) => v_row_4)) v_row_1) (fun (z6 : Str) => bd (cond ((decide (v_kind = ("shut" : Str))) && (decide ((0 : Int) < (neI v_number_here)))) (bd ((z6 ++ (" begins " : Str)) ++ (strI ((neI v_number_here)))) (fun (v_row_9 : Str) => v_row_9)) z6) (fun (z11 : Str) => bd (v_stand.2.2.foldl (fun (z12 : Str) (xv13 : Way) => bd ((((z12 ++ (" to " : Str)) ++ (strI xv13.1)) ++ (" " : Str)) ++ (t__law_number xv13.2)) (fun (v_row_14 : Str) => v_row_14)) z11) (fun (z15 : Str) => z15))))
def s__law_stand_row (v_stand : Stand) (v_kind : Str) (v_number_here : NE) : Prop :=
  ((-1000000000 < v_stand.1 ∧ v_stand.1 < 1000000000) ∧ ((("stand " : Str)).length + ((strI v_stand.1)).length ≤ 10000000) ∧ (((("stand " : Str) ++ (strI v_stand.1))).length + ((" rate " : Str)).length ≤ 10000000) ∧ (s__law_number v_stand.2.1) ∧ ((((("stand " : Str) ++ (strI v_stand.1)) ++ (" rate " : Str))).length + ((t__law_number v_stand.2.1)).length ≤ 10000000) ∧ (bd (((("stand " : Str) ++ (strI v_stand.1)) ++ (" rate " : Str)) ++ (t__law_number v_stand.2.1)) (fun (v_row_1 : Str) => (((decide (v_kind = ("open" : Str))) = true → (IsQ (((0 : Int), (1 : Int))))) ∧ (((decide (v_kind = ("open" : Str))) && (neqQ v_number_here ((mkq (((0 : Int), (1 : Int))))))) = true → ((v_row_1.length + ((" comes " : Str)).length ≤ 10000000) ∧ (v_number_here.isLeft = true) ∧ (s__law_number ((neQ v_number_here))) ∧ (((v_row_1 ++ (" comes " : Str))).length + ((t__law_number ((neQ v_number_here)))).length ≤ 10000000))) ∧ (bd (cond ((decide (v_kind = ("open" : Str))) && (neqQ v_number_here ((mkq (((0 : Int), (1 : Int))))))) (bd ((v_row_1 ++ (" comes " : Str)) ++ (t__law_number ((neQ v_number_here)))) (fun (v_row_4 : Str) => v_row_4)) v_row_1) (fun (z6 : Str) => (((decide (v_kind = ("shut" : Str))) = true → (v_number_here.isRight = true)) ∧ (((decide (v_kind = ("shut" : Str))) && (decide ((0 : Int) < (neI v_number_here)))) = true → ((z6.length + ((" begins " : Str)).length ≤ 10000000) ∧ (v_number_here.isRight = true) ∧ (-1000000000 < ((neI v_number_here)) ∧ ((neI v_number_here)) < 1000000000) ∧ (((z6 ++ (" begins " : Str))).length + ((strI ((neI v_number_here)))).length ≤ 10000000))) ∧ (bd (cond ((decide (v_kind = ("shut" : Str))) && (decide ((0 : Int) < (neI v_number_here)))) (bd ((z6 ++ (" begins " : Str)) ++ (strI ((neI v_number_here)))) (fun (v_row_9 : Str) => v_row_9)) z6) (fun (z11 : Str) => (sfl (fun (z12 : Str) (xv13 : Way) => bd ((((z12 ++ (" to " : Str)) ++ (strI xv13.1)) ++ (" " : Str)) ++ (t__law_number xv13.2)) (fun (v_row_14 : Str) => v_row_14)) (fun (z12 : Str) (xv13 : Way) => ((z12.length + ((" to " : Str)).length ≤ 10000000) ∧ (-1000000000 < xv13.1 ∧ xv13.1 < 1000000000) ∧ (((z12 ++ (" to " : Str))).length + ((strI xv13.1)).length ≤ 10000000) ∧ ((((z12 ++ (" to " : Str)) ++ (strI xv13.1))).length + ((" " : Str)).length ≤ 10000000) ∧ (s__law_number xv13.2) ∧ (((((z12 ++ (" to " : Str)) ++ (strI xv13.1)) ++ (" " : Str))).length + ((t__law_number xv13.2)).length ≤ 10000000))) v_stand.2.2 z11))))))))))
theorem e__law_stand_row {v_stand : Stand} {v_kind : Str} {v_number_here : NE} (h : s__law_stand_row v_stand v_kind v_number_here) : fn__law_stand_row [eStand v_stand, D.str v_kind, eNE v_number_here] = .ok (D.str (t__law_stand_row v_stand v_kind v_number_here)) .ff .non := by
  refine run0 (F := D.str) (o := .ff) (fb := fb__law_stand_row) (x := t__law_stand_row v_stand v_kind v_number_here) ?_
  show JR D.str .ff (fb__law_stand_row [.fz (eStand v_stand), .fz (D.str v_kind), .fz (eNE v_number_here), .un, .un, .un]) _
  delta fb__law_stand_row t__law_stand_row
  delta s__law_stand_row at h
  exact sqB (ctx := fun (v_row_1 : Str) => [.fz (eStand v_stand), .fz (D.str v_kind), .fz (eNE v_number_here), .fz (D.str v_row_1), .un, .un]) (sSet (mof (b2 (b2 (b2 rfl (c1 (a1 (b2 (vf 0 rfl) rfl rfl) a0) (o_str h.1)) (o_addS h.2.1)) rfl (o_addS h.2.2.1)) (mfz (cN (x1 (b2 (vf 0 rfl) rfl rfl) x0) rfl rfl (e__law_number (v_one := v_stand.2.1) h.2.2.2.1 :) rfl)) (o_addS h.2.2.2.2.1))) rfl) h.2.2.2.2.2 (fun v_row_1 h => sqB (ctx := fun (z6 : Str) => [.fz (eStand v_stand), .fz (D.str v_kind), .fz (eNE v_number_here), .fz (D.str z6), .un, .un]) (ifJ (ctx := fun (z5 : Str) => [.fz (eStand v_stand), .fz (D.str v_kind), .fz (eNE v_number_here), .fz (D.str z5), .un, .un]) (v := bd ((v_row_1 ++ (" comes " : Str)) ++ (t__law_number ((neQ v_number_here)))) (fun (v_row_4 : Str) => v_row_4)) (w := v_row_1) (an (tst (b2 (vf 1 rfl) rfl dEq_s)) (fun hc2 => tst (b2 (vf 2 rfl) ((cQ (mtup (a1 rfl (a1 rfl a0))) (h.1 hc2))) (o_neqQ (e := v_number_here) (q := (mkq (((0 : Int), (1 : Int))))))))) (fun hc => (bdh (h.2.1 hc) (fun h => jnE (ctx := fun (z5 : Str) => [.fz (eStand v_stand), .fz (D.str v_kind), .fz (eNE v_number_here), .fz (D.str z5), .un, .un]) (s := bd ((v_row_1 ++ (" comes " : Str)) ++ (t__law_number ((neQ v_number_here)))) (fun (v_row_4 : Str) => v_row_4)) (sqB (ctx := fun (v_row_4 : Str) => [.fz (eStand v_stand), .fz (D.str v_kind), .fz (eNE v_number_here), .fz (D.str v_row_4), .un, .un]) (S := fun _ => True) (sSet (mof (b2 (b2 (vf 3 rfl) rfl (o_addS h.1)) (mfz (cN (x1 ((cNEQ (vf 2 rfl) h.2.1)) x0) rfl rfl (e__law_number (v_one := (neQ v_number_here)) h.2.2.1 :) rfl)) (o_addS h.2.2.2))) rfl) trivial (fun v_row_4 _ => rfl))))) (fun _ => jnE (ctx := fun (z5 : Str) => [.fz (eStand v_stand), .fz (D.str v_kind), .fz (eNE v_number_here), .fz (D.str z5), .un, .un]) (s := v_row_1) rfl)) h.2.2 (fun z6 h => sqB (ctx := fun (z11 : Str) => [.fz (eStand v_stand), .fz (D.str v_kind), .fz (eNE v_number_here), .fz (D.str z11), .un, .un]) (ifJ (ctx := fun (z10 : Str) => [.fz (eStand v_stand), .fz (D.str v_kind), .fz (eNE v_number_here), .fz (D.str z10), .un, .un]) (v := bd ((z6 ++ (" begins " : Str)) ++ (strI ((neI v_number_here)))) (fun (v_row_9 : Str) => v_row_9)) (w := z6) (an (tst (b2 (vf 1 rfl) rfl dEq_s)) (fun hc7 => tst (b2 ((cNEI (vf 2 rfl) (h.1 hc7))) rfl rfl))) (fun hc => (bdh (h.2.1 hc) (fun h => jnE (ctx := fun (z10 : Str) => [.fz (eStand v_stand), .fz (D.str v_kind), .fz (eNE v_number_here), .fz (D.str z10), .un, .un]) (s := bd ((z6 ++ (" begins " : Str)) ++ (strI ((neI v_number_here)))) (fun (v_row_9 : Str) => v_row_9)) (sqB (ctx := fun (v_row_9 : Str) => [.fz (eStand v_stand), .fz (D.str v_kind), .fz (eNE v_number_here), .fz (D.str v_row_9), .un, .un]) (S := fun _ => True) (sSet (mof (b2 (b2 (vf 3 rfl) rfl (o_addS h.1)) (c1 (a1 ((cNEI (vf 2 rfl) h.2.1)) a0) (o_str h.2.2.1)) (o_addS h.2.2.2))) rfl) trivial (fun v_row_9 _ => rfl))))) (fun _ => jnE (ctx := fun (z10 : Str) => [.fz (eStand v_stand), .fz (D.str v_kind), .fz (eNE v_number_here), .fz (D.str z10), .un, .un]) (s := z6) rfl)) h.2.2 (fun z11 h => sqB (ctx := fun (z15 : Str) => [.fz (eStand v_stand), .fz (D.str v_kind), .fz (eNE v_number_here), .fz (D.str z15), .un, .un]) (S := fun _ => True) (forN (F := eWay) (ctx := fun (z12 : Str) => [.fz (eStand v_stand), .fz (D.str v_kind), .fz (eNE v_number_here), .fz (D.str z12), .un, .un]) (i_L (F := eWay) (b2 (vf 0 rfl) rfl rfl)) h (fun z12 xv13 h => ⟨_, rfl, sqB (ctx := fun (v_row_14 : Str) => [.fz (eStand v_stand), .fz (D.str v_kind), .fz (eNE v_number_here), .fz (D.str v_row_14), zI xv13.1, zQ xv13.2]) (S := fun _ => True) (sSet (mof (b2 (b2 (b2 (b2 (vf 3 rfl) rfl (o_addS h.1)) (c1 (a1 (vf 4 rfl) a0) (o_str h.2.1)) (o_addS h.2.2.1)) rfl (o_addS h.2.2.2.1)) (mfz (cN (x1 (vf 5 rfl) x0) rfl rfl (e__law_number (v_one := xv13.2) h.2.2.2.2.1 :) rfl)) (o_addS h.2.2.2.2.2))) rfl) trivial (fun v_row_14 _ => sq (sKill (show _ = [.fz (eStand v_stand), .fz (D.str v_kind), .fz (eNE v_number_here), .fz (D.str v_row_14), .un, .un] from rfl)) rfl)⟩)) trivial (fun z15 _ => sRet (mv_fz (i := 3) rfl) (jr_mk rfl)))))
noncomputable def fb__law_rows : M Fl :=
  mSeq (mSet 1 (mCatO (mFz (mLst (mCons (mBin dIx (mBin dIx (mVar 0) (M.pure (.int 2))) (M.pure (.int 0))) mNil))) (mFz (mLc [4] (mIter (mBin dIx (mVar 0) (M.pure (.int 0)))) (gN 4) (M.pure true) (mFz (mCallN 1 none fn__law_line_row (xV (mVar 4) xNil)))))))
    (mSeq (mFor (mZip (mCons (mBin dIx (mVar 0) (M.pure (.int 1))) (mCons (mBin dIx (mBin dIx (mVar 0) (M.pure (.int 2))) (M.pure (.int 1))) mNil))) (gT 2 (gsC (gN 2) (gsC (gN 3) gsN))) (mSeq (mApp1 1 (mFz (mCallN 3 none fn__law_stand_row (xV (mVar 2) (xV (mBin dIx (mBin dIx (mVar 0) (M.pure (.int 2))) (M.pure (.int 0))) (xV (mVar 3) xNil))))))
    (mSeq (mKill [2, 3]) mNx)))
    (mRet (mMove 1)))
noncomputable def fn__law_rows : List D → Rf := runF none 5 fb__law_rows
noncomputable def t__law_rows (v_net : Net) : (List Str) :=
  bd (([v_net.2.2.1] : List Str) ++ (v_net.1.map (fun (xv1 : Line) => (t__law_line_row xv1)))) (fun (v_rows_here_4 : (List Str)) => bd ((v_net.2.1.zip ((numNE v_net.2.2.2))).foldl (fun (z5 : ((List Str))) (xv6 : (Stand × NE)) => bd (z5 ++ [(t__law_stand_row xv6.1 v_net.2.2.1 xv6.2)]) (fun (v_rows_here_7 : (List Str)) => v_rows_here_7)) v_rows_here_4) (fun (z8 : ((List Str))) => z8))
def s__law_rows (v_net : Net) : Prop :=
  ((∀ xv1 ∈ v_net.1, ((s__law_line_row xv1))) ∧ (v_net.1.length ≤ 10000) ∧ ((([v_net.2.2.1] : List Str)).length + ((v_net.1.map (fun (xv1 : Line) => (t__law_line_row xv1)))).length ≤ 10000) ∧ (bd (([v_net.2.2.1] : List Str) ++ (v_net.1.map (fun (xv1 : Line) => (t__law_line_row xv1)))) (fun (v_rows_here_4 : (List Str)) => (sfl (fun (z5 : ((List Str))) (xv6 : (Stand × NE)) => bd (z5 ++ [(t__law_stand_row xv6.1 v_net.2.2.1 xv6.2)]) (fun (v_rows_here_7 : (List Str)) => v_rows_here_7)) (fun (z5 : ((List Str))) (xv6 : (Stand × NE)) => ((s__law_stand_row xv6.1 v_net.2.2.1 xv6.2) ∧ (z5.length < 10000))) (v_net.2.1.zip ((numNE v_net.2.2.2))) v_rows_here_4))))
theorem e__law_rows {v_net : Net} (h : s__law_rows v_net) : fn__law_rows [eNet v_net] = .ok ((eL D.str) (t__law_rows v_net)) .tt .non := by
  refine run0 (F := (eL D.str)) (o := .tt) (fb := fb__law_rows) (x := t__law_rows v_net) ?_
  show JR (eL D.str) .tt (fb__law_rows [.fz (eNet v_net), .un, .un, .un, .un]) _
  delta fb__law_rows t__law_rows
  delta s__law_rows at h
  exact sqB (ctx := fun (v_rows_here_4 : (List Str)) => [.fz (eNet v_net), .ow ((eL D.str) v_rows_here_4), .un, .un, .un]) (sSetO (catO (F := D.str) (xs := ([v_net.2.2.1] : List Str)) (ys := (v_net.1.map (fun (xv1 : Line) => (t__law_line_row xv1)))) (mfz (mlst (a1 (b2 (b2 (vf 0 rfl) rfl rfl) rfl rfl) a0))) (mfz (lcM (F := eLine) (G := D.str) (φ := fun (xv1 : Line) => (t__law_line_row xv1)) (ρ1 := [.fz (eNet v_net), .un, .un, .un, .un]) (i_L (F := eLine) (b2 (vf 0 rfl) rfl rfl)) rfl (fun xv1 hx2 => ⟨_, rfl, rfl, _, mfz (cN (x1 (vf 4 rfl) x0) rfl rfl (e__law_line_row (v_line_here := xv1) (h.1 xv1 hx2) :) rfl), rfl⟩) h.2.1 rfl)) h.2.2.1) rfl) h.2.2.2 (fun v_rows_here_4 h => sqB (ctx := fun (z8 : ((List Str))) => [.fz (eNet v_net), .ow ((eL D.str) z8), .un, .un, .un]) (S := fun _ => True) (forN (F := (eT2 eStand eNE)) (ctx := fun (z5 : ((List Str))) => [.fz (eNet v_net), .ow ((eL D.str) z5), .un, .un, .un]) (i_zip (F := eStand) (G := eNE) (a1 (b2 (vf 0 rfl) rfl rfl) (a1 ((cNumNE (b2 (b2 (vf 0 rfl) rfl rfl) rfl rfl))) a0))) h (fun z5 xv6 h => ⟨_, rfl, sqB (ctx := fun (v_rows_here_7 : (List Str)) => [.fz (eNet v_net), .ow ((eL D.str) v_rows_here_7), .fz (eStand xv6.1), .fz (eNE xv6.2), .un]) (S := fun _ => True) (sApp (i := 1) (F := D.str) (xs := z5) (v := (t__law_stand_row xv6.1 v_net.2.2.1 xv6.2)) (mfz (cN (x1 (vf 2 rfl) (x1 (b2 (b2 (vf 0 rfl) rfl rfl) rfl rfl) (x1 (vf 3 rfl) x0))) rfl rfl (e__law_stand_row (v_stand := xv6.1) (v_kind := v_net.2.2.1) (v_number_here := xv6.2) h.1 :) rfl)) ⟨_, rfl⟩ rfl h.2 rfl) trivial (fun v_rows_here_7 _ => sq (sKill (show _ = [.fz (eNet v_net), .ow ((eL D.str) v_rows_here_7), .un, .un, .un] from rfl)) rfl)⟩)) trivial (fun z8 _ => sRet (mv_ow (i := 1) rfl) (jr_mk rfl)))
noncomputable def fb__law_text : M Fl :=
  mSeq (mSet 1 (mOf (M.pure (.str ""))))
    (mSeq (mFor (mIter (mVar 0)) (gN 2) (mSeq (mSet 1 (mOf (mBin dAdd (mBin dAdd (mVar 1) (mVar 2)) (M.pure (.str "\n")))))
    (mSeq (mKill [2]) mNx)))
    (mRet (mMove 1)))
noncomputable def fn__law_text : List D → Rf := runF none 3 fb__law_text
noncomputable def t__law_text (v_rows_here : (List Str)) : Str :=
  bd ("" : Str) (fun (v_found_1 : Str) => bd (v_rows_here.foldl (fun (z2 : Str) (xv3 : Str) => bd ((z2 ++ xv3) ++ ("\n" : Str)) (fun (v_found_4 : Str) => v_found_4)) v_found_1) (fun (z5 : Str) => z5))
def s__law_text (v_rows_here : (List Str)) : Prop :=
  bd ("" : Str) (fun (v_found_1 : Str) => (sfl (fun (z2 : Str) (xv3 : Str) => bd ((z2 ++ xv3) ++ ("\n" : Str)) (fun (v_found_4 : Str) => v_found_4)) (fun (z2 : Str) (xv3 : Str) => ((z2.length + xv3.length ≤ 10000000) ∧ (((z2 ++ xv3)).length + (("\n" : Str)).length ≤ 10000000))) v_rows_here v_found_1))
theorem e__law_text {v_rows_here : (List Str)} (h : s__law_text v_rows_here) : fn__law_text [(eL D.str) v_rows_here] = .ok (D.str (t__law_text v_rows_here)) .ff .non := by
  refine run0 (F := D.str) (o := .ff) (fb := fb__law_text) (x := t__law_text v_rows_here) ?_
  show JR D.str .ff (fb__law_text [.fz ((eL D.str) v_rows_here), .un, .un]) _
  delta fb__law_text t__law_text
  delta s__law_text at h
  exact sqB (ctx := fun (v_found_1 : Str) => [.fz ((eL D.str) v_rows_here), .fz (D.str v_found_1), .un]) (sSet (mof rfl) rfl) h (fun v_found_1 h => sqB (ctx := fun (z5 : Str) => [.fz ((eL D.str) v_rows_here), .fz (D.str z5), .un]) (S := fun _ => True) (forN (F := D.str) (ctx := fun (z2 : Str) => [.fz ((eL D.str) v_rows_here), .fz (D.str z2), .un]) (i_L (F := D.str) (vf 0 rfl)) h (fun z2 xv3 h => ⟨_, rfl, sqB (ctx := fun (v_found_4 : Str) => [.fz ((eL D.str) v_rows_here), .fz (D.str v_found_4), .fz (D.str xv3)]) (S := fun _ => True) (sSet (mof (b2 (b2 (vf 1 rfl) (vf 2 rfl) (o_addS h.1)) rfl (o_addS h.2))) rfl) trivial (fun v_found_4 _ => sq (sKill (show _ = [.fz ((eL D.str) v_rows_here), .fz (D.str v_found_4), .un] from rfl)) rfl)⟩)) trivial (fun z5 _ => sRet (mv_fz (i := 1) rfl) (jr_mk rfl)))
noncomputable def fb__law_copy : M Fl :=
  mSeq (mSet 1 (mLc [3] (mIter (mBin dIx (mVar 0) (M.pure (.int 0)))) (gN 3) (M.pure true) (mTup (mCons (mFz (mListOf (mCons (mBin dIx (mVar 3) (M.pure (.int 0))) mNil))) (mCons (mBin dIx (mVar 3) (M.pure (.int 1))) (mCons (mBin dIx (mVar 3) (M.pure (.int 2))) (mCons (mBin dIx (mVar 3) (M.pure (.int 3))) mNil)))))))
    (mSeq (mSet 2 (mLc [4] (mIter (mBin dIx (mVar 0) (M.pure (.int 1)))) (gN 4) (M.pure true) (mTup (mCons (mBin dIx (mVar 4) (M.pure (.int 0))) (mCons (mBin dIx (mVar 4) (M.pure (.int 1))) (mCons (mFz (mListOf (mCons (mBin dIx (mVar 4) (M.pure (.int 2))) mNil))) mNil))))))
    (mSeq (mFrz 1)
    (mSeq (mFrz 2)
    (mRet (mOf (mTup (mCons (mVar 1) (mCons (mVar 2) (mCons (mTup (mCons (mBin dIx (mBin dIx (mVar 0) (M.pure (.int 2))) (M.pure (.int 0))) (mCons (mFz (mListOf (mCons (mBin dIx (mBin dIx (mVar 0) (M.pure (.int 2))) (M.pure (.int 1))) mNil))) mNil))) mNil)))))))))
noncomputable def fn__law_copy : List D → Rf := runF none 5 fb__law_copy
noncomputable def t__law_copy (v_net : Net) : Net :=
  bd (v_net.1.map (fun (xv1 : Line) => (xv1.1, xv1.2.1, xv1.2.2.1, xv1.2.2.2))) (fun (v_lines_4 : (List Line)) => bd (v_net.2.1.map (fun (xv5 : Stand) => (xv5.1, xv5.2.1, xv5.2.2))) (fun (v_stands_8 : (List Stand)) => (v_lines_4, v_stands_8, (v_net.2.2.1, v_net.2.2.2))))
def s__law_copy (v_net : Net) : Prop :=
  ((v_net.1.length ≤ 10000) ∧ (bd (v_net.1.map (fun (xv1 : Line) => (xv1.1, xv1.2.1, xv1.2.2.1, xv1.2.2.2))) (fun (v_lines_4 : (List Line)) => (v_net.2.1.length ≤ 10000))))
theorem e__law_copy {v_net : Net} (h : s__law_copy v_net) : fn__law_copy [eNet v_net] = .ok (eNet (t__law_copy v_net)) .ff .non := by
  refine run0 (F := eNet) (o := .ff) (fb := fb__law_copy) (x := t__law_copy v_net) ?_
  show JR eNet .ff (fb__law_copy [.fz (eNet v_net), .un, .un, .un, .un]) _
  delta fb__law_copy t__law_copy
  delta s__law_copy at h
  exact sqB (ctx := fun (v_lines_4 : (List Line)) => [.fz (eNet v_net), .ow ((eL eLine) v_lines_4), .un, .un, .un]) (sSetO (lcM (F := eLine) (G := eLine) (φ := fun (xv1 : Line) => (xv1.1, xv1.2.1, xv1.2.2.1, xv1.2.2.2)) (ρ1 := [.fz (eNet v_net), .un, .un, .un, .un]) (i_L (F := eLine) (b2 (vf 0 rfl) rfl rfl)) rfl (fun xv1 hx2 => ⟨_, rfl, rfl, _, mtup (a1 (mfz (lofL (F := fq) (a1 (b2 (vf 3 rfl) rfl rfl) a0))) (a1 (b2 (vf 3 rfl) rfl rfl) (a1 (b2 (vf 3 rfl) rfl rfl) (a1 (b2 (vf 3 rfl) rfl rfl) a0)))), rfl⟩) h.1 rfl) rfl) h.2 (fun v_lines_4 h => sqB (ctx := fun (v_stands_8 : (List Stand)) => [.fz (eNet v_net), .ow ((eL eLine) v_lines_4), .ow ((eL eStand) v_stands_8), .un, .un]) (S := fun _ => True) (sSetO (lcM (F := eStand) (G := eStand) (φ := fun (xv5 : Stand) => (xv5.1, xv5.2.1, xv5.2.2)) (ρ1 := [.fz (eNet v_net), .ow ((eL eLine) v_lines_4), .un, .un, .un]) (i_L (F := eStand) (b2 (vf 0 rfl) rfl rfl)) rfl (fun xv5 hx6 => ⟨_, rfl, rfl, _, mtup (a1 (b2 (vf 4 rfl) rfl rfl) (a1 (b2 (vf 4 rfl) rfl rfl) (a1 (mfz (lofL (F := eWay) (a1 (b2 (vf 4 rfl) rfl rfl) a0))) a0))), rfl⟩) h rfl) rfl) trivial (fun v_stands_8 _ => sq (sFrz (i := 1) rfl (show _ = [.fz (eNet v_net), .fz ((eL eLine) v_lines_4), .ow ((eL eStand) v_stands_8), .un, .un] from rfl)) (sq (sFrz (i := 2) rfl (show _ = [.fz (eNet v_net), .fz ((eL eLine) v_lines_4), .fz ((eL eStand) v_stands_8), .un, .un] from rfl)) (sRet (mof (mtup (a1 (vf 1 rfl) (a1 (vf 2 rfl) (a1 (mtup (a1 (b2 (b2 (vf 0 rfl) rfl rfl) rfl rfl) (a1 (mfz (lofNum (a1 (b2 (b2 (vf 0 rfl) rfl rfl) rfl rfl) a0))) a0))) a0))))) (jr_mk rfl)))))
noncomputable def fb_law : M Fl :=
  mSeq (mFor (mRange1 (mCons (M.pure (.int 2)) mNil)) (gN 1) (mSeq (mSet 2 (mCallN 2 none Std.fn__law_stream (xV (mVar 0) (xV (mVar 1) xNil))))
    (mSeq (mSet 3 (mCallN 2 (some 0) fn__law_any (xS 2 (xV (mBin dIx (mFz (mLst (mCons (M.pure (.int 9)) (mCons (M.pure (.int 1000)) mNil)))) (mFz (mCallN 2 (some 0) Std.fn__law_take (xS 2 (xV (M.pure (.int 2)) xNil))))) xNil))))
    (mSeq (mSet 4 (mCallN 3 none Net.fn_made_net (xV (mBin dIx (mVar 3) (M.pure (.int 0))) (xV (mBin dIx (mVar 3) (M.pure (.int 1))) (xV (mBin dIx (mVar 3) (M.pure (.int 2))) xNil)))))
    (mSeq (mSet 5 (mCallN 1 none fn__law_copy (xV (mVar 4) xNil)))
    (mSeq (mSet 6 (mCallN 1 none Tex.fn_net_text (xV (mVar 4) xNil)))
    (mSeq (mIf (mOr (mNot (mTest (mIsi "str" (mVar 6)))) (mOr (mTest (mBin dNe (mVar 6) (mFz (mCallN 1 none fn__law_text (xV (mFz (mCallN 1 none fn__law_rows (xV (mVar 3) xNil))) xNil))))) (mTest (mBin dNe (mVar 4) (mVar 5))))) (mRet (mOf (M.pure (.bl false)))) mNx)
    (mSeq (mKill [1, 2, 3, 4, 5, 6]) mNx))))))))
    (mRet (mOf (M.pure (.bl true))))
noncomputable def fn_law : List D → Rf := runF none 7 fb_law
noncomputable def t_law (v_script : (List Int)) : Bool :=
  fwc (flw ((fun (z1 : Unit) (xv2 : Int) => bd (Std.t__law_stream v_script xv2) (fun (v_stream_here_3 : Std.Stm) => bd ((t__law_any ((Std.t__law_take v_stream_here_3 ((2 : Int))).2) ((ix (([(9 : Int), (1000 : Int)] : List Int)) ((Std.t__law_take v_stream_here_3 ((2 : Int))).1)))).2, (t__law_any ((Std.t__law_take v_stream_here_3 ((2 : Int))).2) ((ix (([(9 : Int), (1000 : Int)] : List Int)) ((Std.t__law_take v_stream_here_3 ((2 : Int))).1)))).1) (fun (z4 : (Std.Stm × Net)) => bd ((z4.2.1, z4.2.2.1, z4.2.2.2) : Net) (fun (v_found_5 : Net) => bd (t__law_copy v_found_5) (fun (v_kept_6 : Net) => bd (Tex.t_net_text v_found_5) (fun (v_text_here_7 : Str) => cond ((!true) || ((!decide (v_text_here_7 = (t__law_text ((t__law_rows z4.2))))) || (!decide (v_found_5 = v_kept_6)))) (Fw.rt false) (Fw.nx ()))))))) : Unit → Int → Fw Unit Bool) (rangeI 0 ((2 : Int))) ()) (fun v => v) (fun (z10 : Unit) => true)
def s_law (v_script : (List Int)) : Prop :=
  (sflw ((fun (z1 : Unit) (xv2 : Int) => bd (Std.t__law_stream v_script xv2) (fun (v_stream_here_3 : Std.Stm) => bd ((t__law_any ((Std.t__law_take v_stream_here_3 ((2 : Int))).2) ((ix (([(9 : Int), (1000 : Int)] : List Int)) ((Std.t__law_take v_stream_here_3 ((2 : Int))).1)))).2, (t__law_any ((Std.t__law_take v_stream_here_3 ((2 : Int))).2) ((ix (([(9 : Int), (1000 : Int)] : List Int)) ((Std.t__law_take v_stream_here_3 ((2 : Int))).1)))).1) (fun (z4 : (Std.Stm × Net)) => bd ((z4.2.1, z4.2.2.1, z4.2.2.2) : Net) (fun (v_found_5 : Net) => bd (t__law_copy v_found_5) (fun (v_kept_6 : Net) => bd (Tex.t_net_text v_found_5) (fun (v_text_here_7 : Str) => cond ((!true) || ((!decide (v_text_here_7 = (t__law_text ((t__law_rows z4.2))))) || (!decide (v_found_5 = v_kept_6)))) (Fw.rt false) (Fw.nx ()))))))) : Unit → Int → Fw Unit Bool) (fun (z1 : Unit) (xv2 : Int) => ((0 ≤ xv2 ∧ xv2 < 1000) ∧ (bd (Std.t__law_stream v_script xv2) (fun (v_stream_here_3 : Std.Stm) => ((InB (([(9 : Int), (1000 : Int)] : List Int)).length ((Std.t__law_take v_stream_here_3 ((2 : Int))).1)) ∧ (s__law_any ((Std.t__law_take v_stream_here_3 ((2 : Int))).2) ((ix (([(9 : Int), (1000 : Int)] : List Int)) ((Std.t__law_take v_stream_here_3 ((2 : Int))).1)))) ∧ (bd ((t__law_any ((Std.t__law_take v_stream_here_3 ((2 : Int))).2) ((ix (([(9 : Int), (1000 : Int)] : List Int)) ((Std.t__law_take v_stream_here_3 ((2 : Int))).1)))).2, (t__law_any ((Std.t__law_take v_stream_here_3 ((2 : Int))).2) ((ix (([(9 : Int), (1000 : Int)] : List Int)) ((Std.t__law_take v_stream_here_3 ((2 : Int))).1)))).1) (fun (z4 : (Std.Stm × Net)) => ((Net.GoodNet z4.2.1 z4.2.2.1 z4.2.2.2) ∧ (bd ((z4.2.1, z4.2.2.1, z4.2.2.2) : Net) (fun (v_found_5 : Net) => ((s__law_copy v_found_5) ∧ (bd (t__law_copy v_found_5) (fun (v_kept_6 : Net) => ((Tex.s_net_text v_found_5) ∧ (bd (Tex.t_net_text v_found_5) (fun (v_text_here_7 : Str) => ((!true) = false → ((s__law_rows z4.2) ∧ (s__law_text ((t__law_rows z4.2))) ∧ ((!decide (v_text_here_7 = (t__law_text ((t__law_rows z4.2))))) = false → ((OkE eNet v_found_5) ∧ (OkE eNet v_kept_6) ∧ (eNet v_found_5 = eNet v_kept_6 → v_found_5 = v_kept_6))))))))))))))))))))) (rangeI 0 ((2 : Int))) ())
theorem e_law {v_script : (List Int)} (h : s_law v_script) : fn_law [D.scr v_script] = .ok (D.bl (t_law v_script)) .ff .non := by
  refine run0 (F := D.bl) (o := .ff) (fb := fb_law) (x := t_law v_script) ?_
  show JR D.bl .ff (fb_law [.fz (D.scr v_script), .un, .un, .un, .un, .un, .un]) _
  delta fb_law t_law
  delta s_law at h
  exact forW (F := D.int) (J' := JR D.bl .ff) (ctx := fun (z1 : Unit) => [.fz (D.scr v_script), .un, .un, .un, .un, .un, .un]) (step := ((fun (z1 : Unit) (xv2 : Int) => bd (Std.t__law_stream v_script xv2) (fun (v_stream_here_3 : Std.Stm) => bd ((t__law_any ((Std.t__law_take v_stream_here_3 ((2 : Int))).2) ((ix (([(9 : Int), (1000 : Int)] : List Int)) ((Std.t__law_take v_stream_here_3 ((2 : Int))).1)))).2, (t__law_any ((Std.t__law_take v_stream_here_3 ((2 : Int))).2) ((ix (([(9 : Int), (1000 : Int)] : List Int)) ((Std.t__law_take v_stream_here_3 ((2 : Int))).1)))).1) (fun (z4 : (Std.Stm × Net)) => bd ((z4.2.1, z4.2.2.1, z4.2.2.2) : Net) (fun (v_found_5 : Net) => bd (t__law_copy v_found_5) (fun (v_kept_6 : Net) => bd (Tex.t_net_text v_found_5) (fun (v_text_here_7 : Str) => cond ((!true) || ((!decide (v_text_here_7 = (t__law_text ((t__law_rows z4.2))))) || (!decide (v_found_5 = v_kept_6)))) (Fw.rt false) (Fw.nx ()))))))) : Unit → Int → Fw Unit Bool)) (S := (fun (z1 : Unit) (xv2 : Int) => ((0 ≤ xv2 ∧ xv2 < 1000) ∧ (bd (Std.t__law_stream v_script xv2) (fun (v_stream_here_3 : Std.Stm) => ((InB (([(9 : Int), (1000 : Int)] : List Int)).length ((Std.t__law_take v_stream_here_3 ((2 : Int))).1)) ∧ (s__law_any ((Std.t__law_take v_stream_here_3 ((2 : Int))).2) ((ix (([(9 : Int), (1000 : Int)] : List Int)) ((Std.t__law_take v_stream_here_3 ((2 : Int))).1)))) ∧ (bd ((t__law_any ((Std.t__law_take v_stream_here_3 ((2 : Int))).2) ((ix (([(9 : Int), (1000 : Int)] : List Int)) ((Std.t__law_take v_stream_here_3 ((2 : Int))).1)))).2, (t__law_any ((Std.t__law_take v_stream_here_3 ((2 : Int))).2) ((ix (([(9 : Int), (1000 : Int)] : List Int)) ((Std.t__law_take v_stream_here_3 ((2 : Int))).1)))).1) (fun (z4 : (Std.Stm × Net)) => ((Net.GoodNet z4.2.1 z4.2.2.1 z4.2.2.2) ∧ (bd ((z4.2.1, z4.2.2.1, z4.2.2.2) : Net) (fun (v_found_5 : Net) => ((s__law_copy v_found_5) ∧ (bd (t__law_copy v_found_5) (fun (v_kept_6 : Net) => ((Tex.s_net_text v_found_5) ∧ (bd (Tex.t_net_text v_found_5) (fun (v_text_here_7 : Str) => ((!true) = false → ((s__law_rows z4.2) ∧ (s__law_text ((t__law_rows z4.2))) ∧ ((!decide (v_text_here_7 = (t__law_text ((t__law_rows z4.2))))) = false → ((OkE eNet v_found_5) ∧ (OkE eNet v_kept_6) ∧ (eNet v_found_5 = eNet v_kept_6 → v_found_5 = v_kept_6)))))))))))))))))))))) (xs := (rangeI 0 ((2 : Int)))) (s := ()) (kr := (fun v => v)) (kn := fun (z10 : Unit) => true) (S2 := fun (z10 : Unit) => True) isRt_R (fun _ _ h => h) (i_r1 (a1 rfl a0) (show -100000000 < ((2 : Int)) ∧ ((2 : Int)) < 100000000 by decide)) h (@sfwc_T _ _ _) (fun z1 xv2 h => ⟨_, rfl, sqB (ctx := fun (v_stream_here_3 : Std.Stm) => [.fz (D.scr v_script), zI xv2, .ow (Std.eStm v_stream_here_3), .un, .un, .un, .un]) (sSetO (cN (x1 (vf 0 rfl) (x1 (vf 1 rfl) x0)) rfl rfl (Std.e__law_stream (ns := v_script) (k := xv2) h.1 :) rfl) rfl) h.2 (fun v_stream_here_3 h => sqB (ctx := fun (z4 : (Std.Stm × Net)) => [.fz (D.scr v_script), zI xv2, .ow (Std.eStm z4.1), .fz (eNet z4.2), .un, .un, .un]) (sSet (cN (x1s (i := 2) rfl rfl (x1 (b2 (mfz (mlst (a1 rfl (a1 rfl a0)))) (mfz (cN (x1s (i := 2) rfl rfl (x1 rfl x0)) rfl rfl (Std.e__law_take (s := v_stream_here_3) (most := (2 : Int)) (show 0 < ((2 : Int)) by decide) :) rfl)) (o_ixL (F := D.int) (xs := ([(9 : Int), (1000 : Int)] : List Int)) h.1)) x0)) rfl rfl (e__law_any (v_stream_here := (Std.t__law_take v_stream_here_3 ((2 : Int))).2) (v_most := (ix (([(9 : Int), (1000 : Int)] : List Int)) ((Std.t__law_take v_stream_here_3 ((2 : Int))).1))) h.2.1 :) rfl) rfl) h.2.2 (fun z4 h => sqB (ctx := fun (v_found_5 : Net) => [.fz (D.scr v_script), zI xv2, .ow (Std.eStm z4.1), .fz (eNet z4.2), .fz (eNet v_found_5), .un, .un]) (sSet (cN (x1 (b2 (vf 3 rfl) rfl rfl) (x1 (b2 (vf 3 rfl) rfl rfl) (x1 (b2 (vf 3 rfl) rfl rfl) x0))) rfl rfl (Net.e_made_net_ (ls := z4.2.1) (ss := z4.2.2.1) (c := z4.2.2.2) h.1 :) rfl) rfl) h.2 (fun v_found_5 h => sqB (ctx := fun (v_kept_6 : Net) => [.fz (D.scr v_script), zI xv2, .ow (Std.eStm z4.1), .fz (eNet z4.2), .fz (eNet v_found_5), .fz (eNet v_kept_6), .un]) (sSet (cN (x1 (vf 4 rfl) x0) rfl rfl (e__law_copy (v_net := v_found_5) h.1 :) rfl) rfl) h.2 (fun v_kept_6 h => sqB (ctx := fun (v_text_here_7 : Str) => [.fz (D.scr v_script), zI xv2, .ow (Std.eStm z4.1), .fz (eNet z4.2), .fz (eNet v_found_5), .fz (eNet v_kept_6), .fz (D.str v_text_here_7)]) (sSet (cN (x1 (vf 4 rfl) x0) rfl rfl (Tex.e_net_text (v_net := v_found_5) h.1 :) rfl) rfl) h.2 (fun v_text_here_7 h => sqIf (orr (nt (tst (isV (vf 6 rfl) isi_ss))) (fun hc9 => orr (tst (b2 (vf 6 rfl) (mfz (cN (x1 (mfz (cN (x1 (vf 3 rfl) x0) rfl rfl (e__law_rows (v_net := z4.2) (h hc9).1 :) rfl)) x0) rfl rfl (e__law_text (v_rows_here := (t__law_rows z4.2)) (h hc9).2.1 :) rfl)) dNe_s)) (fun hc8 => tst (b2 (vf 4 rfl) (vf 5 rfl) ((o_ney (F := eNet) (x := v_found_5) (y := v_kept_6) yNet ((h hc9).2.2 hc8).1 ((h hc9).2.2 hc8).2.1 ((h hc9).2.2 hc8).2.2)))))) (fun _ => sqRet (mof rfl) (jw_rt (jr_mk rfl))) (fun _ => sq rfl (sq (sKill (show _ = [.fz (D.scr v_script), .un, .un, .un, .un, .un, .un] from rfl)) (jw_nx rfl))))))))⟩) (fun z10 h => sRet (mof rfl) (jr_mk rfl))
end K06
namespace Tex
open PySem PySem.Spec PyProof.Rows L2 Dt Std Net Look Law
theorem app_as (x y z : Str) : x ++ y ++ z = x ++ (y ++ z) := by
  show Str.mk ((x.cps ++ y.cps) ++ z.cps) = Str.mk (x.cps ++ (y.cps ++ z.cps))
  rw [Array.append_assoc]
theorem app_nil (x : Str) : x ++ ("" : Str) = x := by
  show Str.mk (x.cps ++ #[]) = x
  rw [Array.append_empty]
theorem nil_app (x : Str) : ("" : Str) ++ x = x := by
  show Str.mk (#[] ++ x.cps) = x
  rw [Array.empty_append]
theorem join_one (s x : Str) : Txt.join s [x] = x := rfl
theorem join_snoc (s y : Str) : ∀ {xs : List Str}, xs ≠ [] → Txt.join s (xs ++ [y]) = Txt.join s xs ++ s ++ y
  | [], h => absurd rfl h
  | x :: xs, _ => by
    show Str.mk ((xs ++ [y]).foldl (fun acc p => acc ++ s.cps ++ p.cps) x.cps) = Str.mk ((xs.foldl (fun acc p => acc ++ s.cps ++ p.cps) x.cps) ++ s.cps ++ y.cps)
    rw [List.foldl_append]; rfl
theorem join_app (s : Str) : ∀ (ys : List Str) {xs : List Str}, xs ≠ [] → Txt.join s (xs ++ ys) = ys.foldl (fun a y => a ++ s ++ y) (Txt.join s xs)
  | [], xs, _ => by rw [List.append_nil]; rfl
  | y :: ys, xs, h => by
    rw [show xs ++ y :: ys = (xs ++ [y]) ++ ys from by simp, join_app s ys (by simp), join_snoc s y h]; rfl
theorem join_nil (xs : List Str) : Txt.join "" xs = xs.foldl (fun a y => a ++ y) ("" : Str) := by
  cases xs with
  | nil => rfl
  | cons x xs =>
    have h := join_app "" xs (xs := [x]) (by simp)
    rw [show [x] ++ xs = x :: xs from rfl, join_one] at h
    rw [h, List.foldl_cons, nil_app]
    generalize x = z
    clear h
    induction xs generalizing z with
    | nil => rfl
    | cons y ys ih => rw [List.foldl_cons, List.foldl_cons, app_nil, ih]
theorem join_len (s : Str) : ∀ (ys : List Str) {xs : List Str}, xs ≠ [] → (Txt.join s (xs ++ ys)).length = (Txt.join s xs).length + (ys.map fun y => y.length).sum + ys.length * s.length
  | [], xs, _ => by rw [List.append_nil]; simp
  | y :: ys, xs, h => by
    rw [show xs ++ y :: ys = (xs ++ [y]) ++ ys from by simp, join_len s ys (by simp), join_snoc s y h, len_app, len_app, List.map_cons, List.sum_cons, List.length_cons, Nat.add_mul]
    omega
theorem join_le (s : Str) (xs : List Str) : (Txt.join s xs).length ≤ (xs.map fun y => y.length).sum + xs.length * s.length := by
  cases xs with
  | nil => exact Nat.zero_le _
  | cons x xs =>
    have h := join_len s xs (xs := [x]) (by simp)
    rw [show [x] ++ xs = x :: xs from rfl, join_one] at h
    rw [h, List.map_cons, List.sum_cons, List.length_cons, Nat.add_mul]; omega
def Wl (n m : Nat) (ws : List Str) : Prop := ws.length ≤ n ∧ ∀ w ∈ ws, w.length ≤ m
theorem Wl.app {n k m : Nat} {xs ys : List Str} (h : Wl n m xs) (g : Wl k m ys) : Wl (n + k) m (xs ++ ys) :=
  ⟨by rw [List.length_append]; have := h.1; have := g.1; omega, fun w hw => (List.mem_append.mp hw).elim (h.2 w) (g.2 w)⟩
theorem Wl.up {n k m : Nat} {xs : List Str} (h : Wl n m xs) (g : n ≤ k) : Wl k m xs := ⟨Nat.le_trans h.1 g, h.2⟩
theorem Wl.sum {m : Nat} : ∀ {xs : List Str}, (∀ w ∈ xs, w.length ≤ m) → (xs.map fun w => w.length).sum ≤ xs.length * m
  | [], _ => Nat.zero_le _
  | x :: xs, h => by
    have h1 := h x (by simp)
    have h2 := Wl.sum (xs := xs) fun w hw => h w (List.mem_cons_of_mem _ hw)
    rw [List.map_cons, List.sum_cons, List.length_cons, Nat.add_mul]; omega
theorem Wl.join {n m : Nat} {ws : List Str} (h : Wl n m ws) (s : Str) : (Txt.join s ws).length ≤ n * (m + s.length) ∧ (ws.map fun w => w.length).sum + ws.length * s.length ≤ n * (m + s.length) := by
  have h1 := Wl.sum h.2
  have h2 := join_le s ws
  have h3 := Nat.mul_le_mul_right (m + s.length) h.1
  rw [Nat.mul_add] at h3
  omega
theorem strI_len {z : Int} (h0 : 0 ≤ z) (h1 : z ≤ 1000) : (strI z).length ≤ 4 := by
  have k : ∀ i : Fin 1001, (strI (i.val : Int)).length ≤ 4 := by decide +kernel
  have := k ⟨z.toNat, by omega⟩
  rw [show (((⟨z.toNat, by omega⟩ : Fin 1001).val : Nat) : Int) = z from by show ((z.toNat : Nat) : Int) = z; omega] at this
  exact this
theorem ft_ok {q : Rat} (h : SmQ q) : s_fraction_text q ∧ (t_fraction_text q).length ≤ 9 := by
  obtain ⟨h0, h1, h2⟩ := h
  have l1 := strI_len h0 h1
  have l2 := strI_len (z := (q.den : Int)) (by omega) (by omega)
  have l3 : ("/" : Str).length = 1 := by decide +kernel
  unfold s_fraction_text t_fraction_text
  simp only [bd_eq]
  refine ⟨⟨fun _ => ⟨by omega, by omega⟩, fun _ => ⟨⟨by omega, by omega⟩, ⟨by omega, by omega⟩, by omega, by omega, by omega⟩⟩, ?_⟩
  cases decide ((q.den : Int) = 1) with
  | true => show (strI q.num).length ≤ 9; omega
  | false =>
    show ((strI q.num ++ ("/" : Str)) ++ strI (q.den : Int)).length ≤ 9
    rw [len_app, len_app]; omega
theorem wl0 {m : Nat} : Wl 0 m [] := ⟨Nat.le_refl 0, fun w hw => nomatch hw⟩
theorem wlc {n m : Nat} {w : Str} {ws : List Str} (h : w.length ≤ m) (g : Wl n m ws) : Wl (n + 1) m (w :: ws) := ⟨by have := g.1; simp only [List.length_cons]; omega, fun x hx => (List.mem_cons.mp hx).elim (fun e => e ▸ h) (g.2 x)⟩
theorem wlm {α : Type} {m n : Nat} {f : α → Str} {xs : List α} (hn : xs.length ≤ n) (h : ∀ x ∈ xs, (f x).length ≤ m) : Wl n m (xs.map f) :=
  ⟨by rw [List.length_map]; exact hn, fun w hw => by obtain ⟨x, hx, rfl⟩ := List.mem_map.mp hw; exact h x hx⟩
theorem rule_len {l : Line} (h : GoodLine l) : l.2.2.2.length ≤ 4 := by
  rcases h.ru with ⟨_, e⟩ | ⟨_, e⟩
  · rw [e]; decide +kernel
  · simp only [List.mem_cons, List.not_mem_nil, or_false] at e
    rcases e with e | e | e <;> rw [e] <;> decide +kernel
noncomputable def lineW (l : Line) : List Str :=
  ([("line" : Str), ("speeds" : Str)] ++ l.1.map fun q => t_fraction_text q) ++ (cond (!decide (l.2.1 = 0)) [("more" : Str), t_fraction_text l.2.1] [] ++ cond (decide (0 < l.2.2.1)) [("room" : Str), strI l.2.2.1, l.2.2.2] [])
theorem line_row_eq (l : Line) : t_line_row l = Txt.join " " (lineW l) := by
  unfold t_line_row lineW
  simp only [bd_eq]
  cases (!decide (l.2.1 = 0)) <;> cases decide (0 < l.2.2.1) <;> simp
theorem line_row_ok {l : Line} (h : GoodLine l) : s_line_row l ∧ Wl 13 9 (lineW l) ∧ (t_line_row l).length ≤ 130 := by
  have a1 : Wl 8 9 (([("line" : Str), ("speeds" : Str)] : List Str) ++ l.1.map fun q => t_fraction_text q) := (wlc (by decide +kernel) (wlc (by decide +kernel) wl0)).app (wlm h.n6 fun q hq => (ft_ok (h.sp q hq).1).2)
  have a2 : Wl 2 9 ([("more" : Str), t_fraction_text l.2.1] : List Str) := wlc (by decide +kernel) (wlc (ft_ok h.mo).2 wl0)
  have a3 : Wl 3 9 ([("room" : Str), strI l.2.2.1, l.2.2.2] : List Str) := wlc (by decide +kernel) (wlc (Nat.le_trans (strI_len h.r0 (by have := h.r9; omega)) (by decide)) (wlc (Nat.le_trans (rule_len h) (by decide)) wl0))
  have b1 : Wl 13 9 (lineW l) := by
    refine (a1.app (Wl.app (n := 2) (k := 3) ?_ ?_) : Wl (8 + (2 + 3)) 9 _)
    · cases (!decide (l.2.1 = 0)) with
      | true => exact a2
      | false => exact wl0.up (by decide)
    · cases decide (0 < l.2.2.1) with
      | true => exact a3
      | false => exact wl0.up (by decide)
  have ls : (" " : Str).length = 1 := by decide +kernel
  have jn := b1.join " "
  rw [ls] at jn
  refine ⟨?_, b1, by rw [line_row_eq]; exact jn.1⟩
  have r0 := h.r0
  have r9 := h.r9
  have n6 := h.n6
  have mo := h.mo
  have jn2 := jn.2
  unfold s_line_row
  unfold lineW at jn2
  simp only [bd_eq]
  refine ⟨fun q hq => (ft_ok (h.sp q hq).1).1, by omega, by rw [List.length_map]; show 2 + _ ≤ _; omega, fun _ => ⟨(ft_ok mo).1, ?_⟩, fun _ => ⟨⟨by omega, by omega⟩, ?_⟩, by rw [ls]; decide, ?_⟩
  · have := a1.1; show _ + 2 ≤ _; omega
  · have : (cond (!decide (l.2.1 = 0)) (((([("line" : Str), ("speeds" : Str)] : List Str) ++ l.1.map fun q => t_fraction_text q)) ++ [("more" : Str), t_fraction_text l.2.1]) ((([("line" : Str), ("speeds" : Str)] : List Str) ++ l.1.map fun q => t_fraction_text q))).length ≤ 10 := by
      have := a1.1
      cases (!decide (l.2.1 = 0)) with
      | true => rw [cond_true, List.length_append]; show _ + 2 ≤ _; omega
      | false => rw [cond_false]; omega
    show _ + 3 ≤ _
    omega
  · rw [ls]
    refine Nat.le_trans (Nat.le_of_eq ?_) (Nat.le_trans jn2 (by decide))
    cases (!decide (l.2.1 = 0)) <;> cases decide (0 < l.2.2.1) <;> simp
def NumOk (kd : Str) (e : NE) : Prop := (kd = "open" ∧ ∃ q, e = .inl q ∧ SmQ q) ∨ (kd = "shut" ∧ ∃ n, e = .inr n ∧ 0 ≤ n ∧ n ≤ 8)
theorem sum_nn : ∀ {xs : List Int}, (∀ x ∈ xs, 0 ≤ x) → 0 ≤ xs.sum
  | [], _ => Int.le_refl 0
  | x :: xs, h => by
    have := h x (by simp)
    have := sum_nn (xs := xs) fun y hy => h y (List.mem_cons_of_mem _ hy)
    rw [List.sum_cons]; omega
theorem sum_ge : ∀ {xs : List Int}, (∀ x ∈ xs, 0 ≤ x) → ∀ x ∈ xs, x ≤ xs.sum
  | [], _, x, h => by cases h
  | y :: xs, hx, x, h => by
    have h0 := hx y (by simp)
    have hs := sum_nn (xs := xs) fun z hz => hx z (List.mem_cons_of_mem _ hz)
    rw [List.sum_cons]
    rcases List.mem_cons.mp h with rfl | h
    · omega
    · have := sum_ge (fun z hz => hx z (List.mem_cons_of_mem _ hz)) x h; omega
theorem num_ok {ls : List Line} {ss : List Stand} {c : Com} (h : GoodCom ls ss c) : ∀ e ∈ numNE c.2, NumOk c.1 e := by
  intro e he
  rcases h with ⟨k, r, hr, _, h1, _⟩ | ⟨k, n, hn, _, h1, _, h3, _⟩
  · rw [hr] at he
    obtain ⟨q, hq, rfl⟩ := List.mem_map.mp he
    exact .inl ⟨k, q, rfl, h1 q hq⟩
  · rw [hn] at he
    obtain ⟨z, hz, rfl⟩ := List.mem_map.mp he
    exact .inr ⟨k, z, rfl, h1 z hz, Int.le_trans (sum_ge h1 z hz) h3⟩
theorem comer_ok {kd : Str} {e : NE} (h : NumOk kd e) : s_comer_words kd e ∧ Wl 2 9 (t_comer_words kd e) := by
  unfold s_comer_words t_comer_words
  rcases h with ⟨rfl, q, rfl, hq⟩ | ⟨rfl, n, rfl, h0, h8⟩
  · have f := ft_ok hq
    have w : decide (("open" : Str) = ("shut" : Str)) = false := by decide
    rw [w]
    refine ⟨⟨fun _ => ⟨rfl, f.1⟩, fun _ => ⟨(fun z => by cases z), (fun z => by rw [Bool.false_and] at z; cases z)⟩⟩, ?_⟩
    cases (decide (("open" : Str) = ("open" : Str)) && neqQ (.inl q) 0) with
    | true => exact wlc (by decide +kernel) (wlc f.2 wl0)
    | false => exact wl0.up (by decide)
  · have w : decide (("shut" : Str) = ("open" : Str)) = false := by decide
    have l1 := strI_len h0 (by omega)
    rw [w, Bool.false_and]
    refine ⟨⟨(fun z => by cases z), fun _ => ⟨fun _ => rfl, fun _ => ⟨rfl, by show -1000000000 < n; omega, by show n < 1000000000; omega⟩⟩⟩, ?_⟩
    rw [cond_false]
    cases (decide (("shut" : Str) = ("shut" : Str)) && decide (0 < neI (.inr n))) with
    | true => exact wlc (by decide +kernel) (wlc (Nat.le_trans l1 (by decide)) wl0)
    | false => exact wl0.up (by decide)
noncomputable def wayW (ws : List Way) : List Str := ws.flatMap fun w => ([("to" : Str), strI w.1, t_fraction_text w.2] : List Str)
theorem way_fold : ∀ (ws : List Way) (z : List Str), ws.foldl (fun (z : List Str) (w : Way) => z ++ [("to" : Str), strI w.1, t_fraction_text w.2]) z = z ++ wayW ws
  | [], z => by simp [wayW]
  | w :: ws, z => by rw [List.foldl_cons, way_fold ws]; simp [wayW]
noncomputable def standW (s : Stand) (kd : Str) (e : NE) : List Str := (([("stand" : Str), strI s.1, ("rate" : Str), t_fraction_text s.2.1] ++ t_comer_words kd e) ++ wayW s.2.2)
theorem stand_row_eq (s : Stand) (kd : Str) (e : NE) : t_stand_row s kd e = Txt.join " " (standW s kd e) := by
  unfold t_stand_row standW
  simp only [bd_eq]
  rw [way_fold]
theorem stand_row_ok {nl ns : Nat} {s : Stand} {kd : Str} {e : NE} (h8 : nl ≤ 8) (h12 : ns ≤ 12) (h : GoodStand nl ns s) (k : NumOk kd e) : s_stand_row s kd e ∧ Wl 42 9 (standW s kd e) ∧ (t_stand_row s kd e).length ≤ 420 := by
  have l0 := h.l0
  have l1 := h.l1
  have wl := ways_len h
  obtain ⟨c1, c2⟩ := comer_ok k
  have ww : ∀ w ∈ s.2.2, s_fraction_text w.2 ∧ Wl 3 9 ([("to" : Str), strI w.1, t_fraction_text w.2] : List Str) := fun w hw => by
    obtain ⟨w0, w1, w2, _⟩ := h.wy w hw
    exact ⟨(ft_ok w2).1, wlc (by decide +kernel) (wlc (Nat.le_trans (strI_len w0 (by omega)) (by decide)) (wlc (ft_ok w2).2 wl0))⟩
  have a1 : Wl 6 9 (([("stand" : Str), strI s.1, ("rate" : Str), t_fraction_text s.2.1] : List Str) ++ t_comer_words kd e) := (wlc (by decide +kernel) (wlc (Nat.le_trans (strI_len l0 (by omega)) (by decide)) (wlc (by decide +kernel) (wlc (ft_ok h.ra.1).2 wl0)))).app c2
  have a2 : ∀ {ws : List Way}, (∀ w ∈ ws, Wl 3 9 ([("to" : Str), strI w.1, t_fraction_text w.2] : List Str)) → Wl (3 * ws.length) 9 (wayW ws) := by
    intro ws hw
    induction ws with
    | nil => exact wl0
    | cons w ws ih =>
      have := (hw w (by simp)).app (ih fun x hx => hw x (List.mem_cons_of_mem _ hx))
      exact this.up (by rw [List.length_cons]; omega)
  have b1 : Wl 42 9 (standW s kd e) := (a1.app (a2 fun w hw => (ww w hw).2)).up (by omega)
  have ls : (" " : Str).length = 1 := by decide +kernel
  have jn := b1.join " "
  rw [ls] at jn
  refine ⟨?_, b1, by rw [stand_row_eq]; exact jn.1⟩
  unfold s_stand_row
  simp only [bd_eq]
  refine ⟨⟨by omega, by omega⟩, (ft_ok h.ra.1).1, c1, by have := c2.1; show 4 + _ ≤ _; omega, ?_, by rw [ls]; decide, ?_⟩
  · refine (sfl_of0 (fun k (z : List Str) => z.length ≤ 6 + 3 * k) _ _ a1.1 fun j hj z hz => ⟨?_, ?_⟩).1
    · have hw := List.getElem_mem hj
      obtain ⟨w0, w1, _⟩ := h.wy _ hw
      refine ⟨⟨by omega, by omega⟩, (ww _ hw).1, ?_⟩
      show _ + 3 ≤ _
      omega
    · show (z ++ _).length ≤ _
      rw [List.length_append]
      show _ + 3 ≤ _
      omega
  · rw [way_fold, ls]
    exact Nat.le_trans jn.2 (by decide)
theorem zip_ok {net : Net} (g : GoodNet net.1 net.2.1 net.2.2) : ∀ x ∈ net.2.1.zip (numNE net.2.2.2), GoodStand net.1.length net.2.1.length x.1 ∧ NumOk net.2.2.1 x.2 := fun x hx =>
  have h := List.of_mem_zip (show (x.1, x.2) ∈ _ from hx)
  ⟨g.st _ h.1, num_ok g.cm _ h.2⟩
theorem kind_len {net : Net} (g : GoodNet net.1 net.2.1 net.2.2) : net.2.2.1.length ≤ 420 := by
  rcases g.cm with ⟨e, _⟩ | ⟨e, _⟩ <;> rw [e] <;> decide +kernel
noncomputable def rowsW (net : Net) : List Str := ([net.2.2.1] ++ net.1.map fun l => t_line_row l) ++ (net.2.1.zip (numNE net.2.2.2)).map fun x => t_stand_row x.1 net.2.2.1 x.2
theorem net_rows_eq (net : Net) : t_net_rows net = rowsW net := rfl
theorem zip_len {α β : Type} (xs : List α) (ys : List β) : (xs.zip ys).length ≤ xs.length := by
  rw [List.length_zip]; omega
theorem net_rows_ok {net : Net} (g : GoodNet net.1 net.2.1 net.2.2) : s_net_rows net ∧ Wl 21 420 (t_net_rows net) := by
  have l8 := g.l8
  have s12 := g.s12
  have zl := zip_len net.2.1 (numNE net.2.2.2)
  have a1 : Wl 9 420 (([net.2.2.1] : List Str) ++ net.1.map fun l => t_line_row l) := (wlc (kind_len g) wl0 : Wl 1 420 _).app (wlm g.l8 fun l hl => Nat.le_trans (line_row_ok (g.ln l hl)).2.2 (by decide))
  have a2 : Wl 12 420 ((net.2.1.zip (numNE net.2.2.2)).map fun x => t_stand_row x.1 net.2.2.1 x.2) := wlm (by omega) fun x hx => (stand_row_ok g.l8 g.s12 (zip_ok g x hx).1 (zip_ok g x hx).2).2.2
  refine ⟨?_, a1.app a2⟩
  unfold s_net_rows
  simp only [bd_eq]
  refine ⟨fun l hl => (line_row_ok (g.ln l hl)).1, by omega, by rw [List.length_map]; show 1 + _ ≤ _; omega, fun x hx => (stand_row_ok g.l8 g.s12 (zip_ok g x hx).1 (zip_ok g x hx).2).1, by omega, ?_⟩
  have := a1.1
  rw [List.length_map]
  omega
theorem net_text_ok {net : Net} (g : GoodNet net.1 net.2.1 net.2.2) : s_net_text net ∧ (t_net_text net).length ≤ 8841 := by
  obtain ⟨h1, h2⟩ := net_rows_ok g
  have ln : ("\n" : Str).length = 1 := by decide +kernel
  have l0 : ("" : Str).length = 0 := by decide +kernel
  have a1 : Wl 21 421 ((t_net_rows net).map fun r => r ++ ("\n" : Str)) := wlm h2.1 fun r hr => by
    rw [len_app, ln]
    have := h2.2 r hr
    omega
  have jn := a1.join ""
  rw [l0] at jn
  refine ⟨⟨h1, fun r hr => ?_, by have := h2.1; omega, by rw [l0]; decide, ?_⟩, jn.1⟩
  · have := h2.2 r hr
    rw [ln]; omega
  · rw [l0]
    exact Nat.le_trans jn.2 (by decide)
end Tex
namespace K06
open PySem PySem.Spec PyProof.Rows L2 Dt Std Net Look Law Tex
def SomeOut (r : Rat × Stm) : Prop := SmQ r.1 ∧ 0 < r.1
theorem some_ok (s : Stm) {m : Int} (m0 : 0 < m) (m1 : m ≤ 1000) : s__law_some s m ∧ SomeOut (t__law_some s m) := by
  unfold s__law_some t__law_some
  have t1 := take_b (s := s) (most := m) m0
  have t2 := take_b (s := (t__law_take s m).2) (most := m) m0
  exact ⟨⟨m0, m0, by omega⟩, smq_div (by omega) (by omega) (by omega) (by omega), divI_pos (by omega) (by omega)⟩
structure LnK (kd : Str) (l : Line) : Prop where
  g : GoodLine l
  w : kd = "wide" → l.2.2.1 = 0 ∧ l.2.1 = 0
  t : kd = "tight" → 0 < l.2.2.1
  s : kd = "shut" → l.2.2.2 ≠ "lose" ∧ (l.2.2.1 = 0 ∨ 8 ≤ l.2.2.1)
def LineOut (kd : Str) (r : Line × Stm) : Prop := LnK kd r.1
theorem smq0 : SmQ 0 := ⟨by decide, by decide, by decide⟩
theorem line_ok (s : Stm) {kd : Str} {m : Int} (hk : kd ∈ ([("wide" : Str), "tight", "shut"] : List Str)) (m0 : 0 < m) (m1 : m ≤ 1000) : s__law_line s kd m ∧ LineOut kd (t__law_line s kd m) := by
  unfold s__law_line t__law_line
  have t1 := take_b (s := s) (most := m) m0
  refine hd_and m0 (hd_bd (fun (z : Stm × Int) => 1 ≤ z.2 ∧ z.2 ≤ 1000) (by dsimp only; omega) ?_)
  rintro ⟨s1, be⟩ ⟨b0, b1⟩
  dsimp only at b0 b1 ⊢
  have t2 := take_b (s := s1) (most := 6) (by decide)
  have lc := lcS_map (S := fun (_ : Int) (_ : Stm) => 0 < m) (e := fun (x : Int) (s : Stm) => ((1 + (t__law_take s m).1), (t__law_take s m).2)) (fun (_ : Int) y => 1 ≤ y ∧ y ≤ 1000) (rangeI 0 (1 + (t__law_take s1 6).1)) (t__law_take s1 6).2 (fun x hx s => ⟨m0, by have := take_b (s := s) (most := m) m0; dsimp only; omega⟩)
  have ll := lc.2.len
  rw [rangeI_len] at ll
  refine hd_and ⟨by omega, by omega⟩ (hd_and lc.1 (hd_and (by rw [rangeI_len]; omega) (hd_bd (fun (z : Stm × List Int) => 1 ≤ z.2.length ∧ z.2.length ≤ 6 ∧ (∀ x ∈ z.2, 1 ≤ x ∧ x ≤ 1000) ∧ z.2.Pairwise (· ≤ ·)) ⟨?_, ?_, ?_, PySem.W.sortI_rises _⟩ ?_)))
  · show 1 ≤ (PySem.W.sortI _).length; rw [len_sort]; omega
  · show (PySem.W.sortI _).length ≤ 6; rw [len_sort]; omega
  · intro x hx; exact lc.2.right (P := fun y => 1 ≤ y ∧ y ≤ 1000) (fun _ _ _ h => h) x (mem_sort.mp hx)
  rintro ⟨s2, row⟩ ⟨r1, r6, rb, ru⟩
  dsimp only at r1 r6 rb ru ⊢
  refine hd_and (fun x hx => by omega) (hd_and (by omega) (hd_bd (fun (sp : List Rat) => 1 ≤ sp.length ∧ sp.length ≤ 6 ∧ (∀ x ∈ sp, SmQ x ∧ 0 < x) ∧ sp.Pairwise (· ≤ ·)) ⟨by rw [List.length_map]; exact r1, by rw [List.length_map]; exact r6, ?_, ?_⟩ ?_))
  · intro x hx
    obtain ⟨z, hz, rfl⟩ := List.mem_map.mp hx
    have := rb z hz
    exact ⟨smq_div (by omega) (by omega) (by omega) (by omega), divI_pos (by omega) (by omega)⟩
  · rw [List.pairwise_map]
    exact ru.imp fun h => divI_le h (by omega)
  rintro sp ⟨p1, p6, pq, pu⟩
  refine hd_eq ?_
  refine hd_and (fun _ => (some_ok _ m0 m1).1) (hd_bd (fun (z : Stm × Rat) => SmQ z.2 ∧ (kd = "wide" → z.2 = 0)) ?_ ?_)
  · cases c : ((!decide (kd = ("wide" : Str))) && (decide ((t__law_take s2 2).1 = 1))) with
    | false => exact ⟨smq0, fun _ => rfl⟩
    | true =>
      refine ⟨(some_ok _ m0 m1).2.1, fun z => ?_⟩
      rw [z] at c; simp at c
  rintro ⟨s3, mo⟩ ⟨q1, q2⟩
  dsimp only at q1 q2 ⊢
  cases c : (decide (kd = ("wide" : Str)) || (decide (kd = ("shut" : Str)) && (decide ((t__law_take s3 2).1 = 1)))) with
  | true =>
    refine ⟨fun z => (by cases z), (show LnK kd (sp, mo, 0, "") from ?_)⟩
    refine ⟨⟨p1, p6, pq, pu, q1, Int.le_refl 0, (by decide : (0 : Int) ≤ 9), .inl ⟨rfl, rfl⟩⟩, fun z => ⟨rfl, q2 z⟩, fun z => ?_, fun z => ⟨by show (("" : Str)) ≠ ("lose" : Str); decide, .inl rfl⟩⟩
    rw [z] at c
    have c' : (false || (false && (decide ((t__law_take s3 2).1 = 1)))) = true := c
    simp at c'
  | false =>
    rw [cond_false]
    have nw : kd ≠ "wide" := fun z => by rw [z] at c; simp at c
    generalize (cond ((decide (kd = ("wide" : Str)))) s3 ((cond ((decide (kd = ("shut" : Str)))) ((t__law_take s3 2).2) s3))) = s4
    suffices h : _ ∧ LineOut kd _ from ⟨fun _ => h.1, h.2⟩
    refine hd_eq ?_
    refine hd_bd (fun (z : List Str) => 0 < z.length ∧ (∀ x ∈ z, x ∈ ([("stay" : Str), "lose", "skip"] : List Str)) ∧ (kd = "shut" → ∀ x ∈ z, x ≠ "lose")) ?_ ?_
    · by_cases e : kd = "shut"
      · rw [decide_eq_true e]
        exact ⟨by show 0 < 2; decide, by show ∀ x ∈ ([("stay" : Str), "skip"] : List Str), _; decide, fun _ => by show ∀ x ∈ ([("stay" : Str), "skip"] : List Str), _; decide⟩
      · rw [decide_eq_false e]
        exact ⟨by show 0 < 3; decide, by show ∀ x ∈ ([("stay" : Str), "skip", "lose"] : List Str), _; decide, fun z => absurd z e⟩
    rintro ru ⟨u0, u1, u2⟩
    have t3 := take_b (s := s4) (most := 2) (by decide)
    have t4 := take_b (s := (t__law_take s4 2).2) (most := (ru.length : Int)) (by omega)
    have ib : InB ru.length (t__law_take (t__law_take s4 2).2 (ru.length : Int)).1 := inB_nat t4.1 t4.2
    have im := ix_mem ib
    refine ⟨⟨by omega, ib⟩, (show LnK kd (sp, mo, 8 + (t__law_take s4 2).1, ix ru (t__law_take (t__law_take s4 2).2 (ru.length : Int)).1) from ?_)⟩
    exact ⟨⟨p1, p6, pq, pu, q1, by show 0 ≤ 8 + _; omega, by show 8 + _ ≤ 9; omega, .inr ⟨by show 0 < 8 + _; omega, u1 _ im⟩⟩, fun z => absurd z nw, fun _ => by show 0 < 8 + _; omega, fun z => ⟨u2 z _ im, .inr (by show 8 ≤ 8 + _; omega)⟩⟩
structure WaysOk (n : Int) (full : Bool) (ws : List Way) : Prop where
  wy : ∀ w ∈ ws, 0 ≤ w.1 ∧ w.1 < n ∧ SmQ w.2 ∧ 0 < w.2
  up : ws.Pairwise (fun a b => a.1 < b.1)
  le : sumQ (ws.map (·.2)) ≤ 1
  fu : full = true → sumQ (ws.map (·.2)) = 1
def GoesOut (n : Int) (full : Bool) (r : List Way × Stm) : Prop := WaysOk n full r.1
theorem map_zip2 (f : Int → Rat) : ∀ (xs ys : List Int), xs.length = ys.length → ((xs.zip ys).map (fun p => (p.1, f p.2))).map (·.1) = xs ∧ ((xs.zip ys).map (fun p => (p.1, f p.2))).map (·.2) = ys.map f
  | [], [], _ => ⟨rfl, rfl⟩
  | [], _ :: _, h => by cases h
  | _ :: _, [], h => by cases h
  | x :: xs, y :: ys, h => by
    obtain ⟨h1, h2⟩ := map_zip2 f xs ys (by simpa using h)
    simp only [List.zip_cons_cons, List.map_cons]
    exact ⟨by rw [h1], by rw [h2]⟩
theorem sum_pos60 {ps : List Int} (h : ∀ p ∈ ps, 1 ≤ p ∧ p ≤ 60) : (ps.length : Int) ≤ ps.sum ∧ ps.sum ≤ 60 * ps.length := by
  induction ps with
  | nil => exact ⟨Int.le_refl 0, Int.le_refl 0⟩
  | cons p ps ih =>
    have h1 := h p (by simp)
    have h2 := ih fun q hq => h q (List.mem_cons_of_mem _ hq)
    simp only [List.sum_cons, List.length_cons]; omega
theorem ways_mk {n below : Int} {full : Bool} {so pa : List Int} (hl : so.length = pa.length) (l12 : so.length ≤ 12) (hs : ∀ x ∈ so, 0 ≤ x ∧ x < n) (up : so.Pairwise (· < ·)) (hp : ∀ p ∈ pa, 1 ≤ p ∧ p ≤ 60) (hb : pa.sum ≤ below) (hb2 : below ≤ pa.sum + 100) (hf : full = true → below = pa.sum ∧ so ≠ []) :
    WaysOk n full ((so.zip pa).map fun p => (p.1, Rat.divInt p.2 below)) := by
  obtain ⟨e1, e2⟩ := map_zip2 (fun p => Rat.divInt p below) so pa hl
  obtain ⟨s1, s2⟩ := sum_pos60 hp
  have e3 : sumQ (((so.zip pa).map fun p => (p.1, Rat.divInt p.2 below)).map (·.2)) = Rat.divInt pa.sum below := by rw [e2, sumQ_div]
  refine ⟨fun w hw => ?_, ?_, ?_, fun z => ?_⟩
  · obtain ⟨p, hp1, rfl⟩ := List.mem_map.mp hw
    obtain ⟨h1, h2⟩ := List.of_mem_zip hp1
    have hpos : 0 < pa.length := List.length_pos_of_mem h2
    have := hp _ h2
    exact ⟨(hs _ h1).1, (hs _ h1).2, smq_div (by omega) (by omega) (by omega) (by omega), divI_pos (by omega) (by omega)⟩
  · have : (((so.zip pa).map fun p => (p.1, Rat.divInt p.2 below)).map (·.1)).Pairwise (· < ·) := by rw [e1]; exact up
    rw [List.pairwise_map] at this
    exact this
  · rw [e3]
    by_cases h0 : below = 0
    · rw [h0, Rat.divInt_zero]; decide
    · rw [← divI_self (a := below) (by omega)]
      exact divI_le hb (by omega)
  · rw [e3]
    obtain ⟨h1, h2⟩ := hf z
    have : 0 < so.length := List.length_pos_iff.mpr h2
    rw [h1, divI_self (by omega)]
theorem range_lt (a b : Int) : (rangeI a b).Pairwise (· < ·) := by
  rw [List.pairwise_iff_getElem]
  intro i j hi hj h
  rw [rangeI_get hi, rangeI_get hj]; omega
theorem goes_ok (s : Stm) {n : Int} (full : Bool) (n1 : 1 ≤ n) (n12 : n ≤ 12) : s__law_goes s n full ∧ GoesOut n full (t__law_goes s n full) := by
  unfold s__law_goes t__law_goes
  refine hd_and ⟨by omega, by omega⟩ (hd_and (by rw [rangeI_len]; omega) (hd_bd (fun (z : Stm × List Int) => z.2.Sublist (rangeI 0 n)) (lcS_sub _ _) ?_))
  rintro ⟨s1, so⟩ hso
  dsimp only at hso ⊢
  refine hd_and (fun _ => by omega) (hd_bd (fun (z : Stm × List Int) => (∀ x ∈ z.2, 0 ≤ x ∧ x < n) ∧ z.2.Pairwise (· < ·) ∧ z.2.length ≤ 12 ∧ (full = true → z.2 ≠ [])) ?_ ?_)
  · have h1 : (∀ x ∈ so, 0 ≤ x ∧ x < n) := fun x hx => mem_rangeI.mp (hso.subset hx)
    have h2 := (range_lt 0 n).sublist hso
    have h3 : so.length ≤ 12 := by have := hso.length_le; rw [rangeI_len] at this; omega
    have tb := take_b (s := s1) (most := n) (by omega)
    cases hc : (decide (so = []) && full) with
    | true =>
      exact ⟨fun x hx => by rw [show x = _ from List.mem_singleton.mp hx]; exact tb, List.pairwise_singleton _ _, by show 1 ≤ 12; decide, fun _ => by show [_] ≠ []; simp⟩
    | false =>
      refine ⟨h1, h2, h3, fun hf z => ?_⟩
      have z' : so = [] := z
      rw [z', hf] at hc; simp at hc
  rintro ⟨s2, so2⟩ ⟨h1, h2, h3, h4⟩
  dsimp only at h1 h2 h3 h4 ⊢
  have lc := lcS_map (S := fun _ _ => True) (e := fun (x : Int) (s : Stm) => ((1 + (t__law_take s 60).1), (t__law_take s 60).2)) (fun (_ : Int) y => 1 ≤ y ∧ y ≤ 60) so2 s2 (fun x hx s => ⟨trivial, by have := take_b (s := s) (most := 60) (by decide); dsimp only; omega⟩)
  refine hd_and (by omega) (hd_bd (fun (z : Stm × List Int) => so2.length = z.2.length ∧ ∀ p ∈ z.2, 1 ≤ p ∧ p ≤ 60) ⟨lc.2.len, lc.2.right (fun _ _ _ h => h)⟩ ?_)
  rintro ⟨s3, pa⟩ ⟨q1, q2⟩
  dsimp only at q1 q2 ⊢
  refine hd_eq ?_
  obtain ⟨sp1, sp2⟩ := sum_pos60 q2
  have t1 := take_b (s := s3) (most := 100) (by decide)
  refine hd_bd (fun (z : Stm × Int) => pa.sum ≤ z.2 ∧ z.2 ≤ pa.sum + 100 ∧ (full = true → z.2 = pa.sum)) ?_ ?_
  · cases full with
    | true => exact ⟨by show pa.sum ≤ pa.sum; omega, by show pa.sum ≤ pa.sum + 100; omega, fun _ => rfl⟩
    | false => exact ⟨by show pa.sum ≤ pa.sum + _; omega, by show pa.sum + _ ≤ pa.sum + 100; omega, fun z => by cases z⟩
  rintro ⟨s4, be⟩ ⟨b1, b2, b3⟩
  dsimp only at b1 b2 b3 ⊢
  refine ⟨⟨fun p hp => ?_, by rw [List.length_zip]; omega⟩, ?_⟩
  · obtain ⟨m1, m2⟩ := List.of_mem_zip hp
    have : 0 < pa.length := List.length_pos_of_mem m2
    omega
  · exact ways_mk q1 h3 h1 h2 q2 b1 b2 fun hf => ⟨b3 hf, h4 hf⟩
theorem repI_one {α : Type} (x : α) (k : Int) : repI [x] k = List.replicate k.toNat x := by
  unfold repI
  generalize k.toNat = m
  induction m with
  | zero => rfl
  | succ m ih => rw [List.replicate_succ, List.flatten_cons, ih]; rfl
theorem sum_rep0 : ∀ m : Nat, (List.replicate m (0 : Int)).sum = 0
  | 0 => rfl
  | m + 1 => by rw [List.replicate_succ, List.sum_cons, sum_rep0 m]; rfl
theorem sum_set1 : ∀ (xs : List Int) (j : Nat) (h : j < xs.length), (xs.set j (xs[j] + 1)).sum = xs.sum + 1
  | x :: xs, 0, _ => by simp only [List.set_cons_zero, List.sum_cons, List.getElem_cons_zero]; omega
  | x :: xs, j + 1, h => by
    have := sum_set1 xs j (by simpa using h)
    simp only [List.set_cons_succ, List.sum_cons, List.getElem_cons_succ]; omega
def ComsOut (kd : Str) (n : Nat) (r : Com × Stm) : Prop :=
  (kd = "shut" ∧ ∃ cs, r.1 = (("shut" : Str), (Sum.inr cs : Num)) ∧ cs.length = n ∧ (∀ x ∈ cs, 0 ≤ x) ∧ 1 ≤ cs.sum ∧ cs.sum ≤ 8) ∨
  (kd ≠ "shut" ∧ ∃ qs, r.1 = (("open" : Str), (Sum.inl qs : Num)) ∧ qs.length = n ∧ (∀ x ∈ qs, SmQ x) ∧ ∃ x ∈ qs, x ≠ 0)
theorem comers_ok (s : Stm) {kd : Str} {n : Int} {m : Int} (n1 : 1 ≤ n) (n12 : n ≤ 12) (m0 : 0 < m) (m1 : m ≤ 1000) : s__law_comers s kd n m ∧ ComsOut kd n.toNat (t__law_comers s kd n m) := by
  unfold s__law_comers t__law_comers
  refine hd_cond (fun hc => ?_) (fun hc => ?_)
  · refine hd_and ⟨by omega, by omega, by decide⟩ (hd_eq ?_)
    rw [repI_one]
    have t8 := take_b (s := s) (most := 8) (by decide)
    refine hd_and ⟨by omega, by omega⟩ ?_
    refine hd_last (hd_fold (fun k (z : Stm × List Int) => z.2.length = n.toNat ∧ (∀ x ∈ z.2, 0 ≤ x) ∧ z.2.sum = (k : Int)) ⟨List.length_replicate, fun x hx => by rw [(List.mem_replicate.mp hx).2]; exact Int.le_refl 0, sum_rep0 _⟩ (fun k hk z hz => ?_) ?_)
    · obtain ⟨s1, cs⟩ := z
      obtain ⟨c1, c2, c3⟩ := hz
      dsimp only at c1 c2 c3 ⊢
      have tn := take_b (s := s1) (most := n) (by omega)
      have ib : InB cs.length (t__law_take s1 n).1 := inB_nat tn.1 (by omega)
      obtain ⟨hj, e⟩ := ix_nat (xs := cs) tn.1 (by omega)
      have e2 : ixN' cs.length (t__law_take s1 n).1 = (t__law_take s1 n).1.toNat := by unfold ixN'; rw [if_neg (by omega)]
      refine ⟨⟨by omega, ib, ib⟩, ?_, ?_, ?_⟩
      · show (setI cs _ _).length = _; rw [setI_len]; exact c1
      · intro x hx
        have hx' : x ∈ setI cs _ _ := hx
        rcases List.mem_or_eq_of_mem_set hx' with h | h
        · exact c2 x h
        · have := c2 _ (ix_mem ib)
          have h' : x = ix cs (t__law_take s1 n).1 + 1 := h
          omega
      · show (setI cs _ (ix cs _ + 1)).sum = _
        unfold setI
        rw [e, e2, sum_set1 _ _ hj, c3]; omega
    · rintro ⟨s1, cs⟩ ⟨c1, c2, c3⟩
      dsimp only at c1 c2 c3 ⊢
      rw [rangeI_len] at c3
      exact ⟨trivial, .inl ⟨of_decide_eq_true hc, cs, rfl, c1, c2, by omega, by omega⟩⟩
  · refine hd_and ⟨by omega, by omega, by decide⟩ (hd_eq ?_)
    rw [repI_one]
    have t8 := take_b (s := s) (most := n) (by omega)
    refine hd_and (by omega) (hd_and ⟨by omega, by omega⟩ ?_)
    refine hd_last (hd_fold (fun k (z : Stm × List Rat) => z.2.length = n.toNat ∧ (∀ x ∈ z.2, SmQ x) ∧ (0 < k → ∃ x ∈ z.2, x ≠ 0)) ⟨List.length_replicate, fun x hx => by rw [(List.mem_replicate.mp hx).2]; exact smq0, fun h => absurd h (Nat.lt_irrefl 0)⟩ (fun k hk z hz => ?_) ?_)
    · obtain ⟨s1, cs⟩ := z
      obtain ⟨c1, c2, c3⟩ := hz
      dsimp only at c1 c2 c3 ⊢
      obtain ⟨o1, o2⟩ := some_ok s1 m0 m1
      have tn := take_b (s := (t__law_some s1 m).2) (most := n) (by omega)
      have ib : InB cs.length (t__law_take (t__law_some s1 m).2 n).1 := inB_nat tn.1 (by omega)
      refine ⟨⟨o1, by omega, ib⟩, ?_, ?_, fun _ => ?_⟩
      · show (setI cs _ _).length = _; rw [setI_len]; exact c1
      · intro x hx
        have hx' : x ∈ setI cs _ _ := hx
        rcases List.mem_or_eq_of_mem_set hx' with h | h
        · exact c2 x h
        · rw [h]; exact o2.1
      · refine ⟨(t__law_some s1 m).1, ?_, Rat.ne_of_gt o2.2⟩
        show _ ∈ setI cs _ _
        unfold setI
        exact List.mem_iff_getElem.mpr ⟨_, by rw [List.length_set]; exact (ixN_of ib).2, by rw [List.getElem_set_self]⟩
    · rintro ⟨s1, cs⟩ ⟨c1, c2, c3⟩
      dsimp only at c1 c2 c3 ⊢
      rw [rangeI_len] at c3
      exact ⟨trivial, .inr ⟨of_decide_eq_false hc, cs, rfl, c1, c2, c3 (by omega)⟩⟩
def MadeI (kd : Str) (nl ns : Int) (k : Nat) (z : Stm × List Stand) : Prop := z.2.length = k ∧ (∀ y ∈ z.2, 0 ≤ y.1 ∧ y.1 < nl ∧ SmQ y.2.1 ∧ 0 < y.2.1 ∧ WaysOk ns (decide (kd = "shut")) y.2.2) ∧ ∀ j (hj : j < z.2.length), (j : Int) < nl → z.2[j].1 = j
theorem begins_le {ss : List Stand} {c : List Int} (i : Int) (h : ∀ x ∈ c, 0 ≤ x) : begins ss c i ≤ c.sum := by
  unfold begins
  induction c generalizing ss with
  | nil => exact Int.le_refl 0
  | cons x c ih =>
    have h0 := h x (by simp)
    have h1 := fun ss => ih (ss := ss) fun y hy => h y (List.mem_cons_of_mem _ hy)
    cases ss with
    | nil =>
      have := Tex.sum_nn h
      show (0 : Int) ≤ _
      exact this
    | cons st ss =>
      have := h1 ss
      rw [List.zip_cons_cons, List.filter_cons, List.sum_cons]
      split
      · rw [List.map_cons, List.sum_cons]; dsimp only; omega
      · omega
def NetOut (r : Net × Stm) : Prop := GoodNet r.1.1 r.1.2.1 r.1.2.2
theorem any_ok (s : Stm) {m : Int} (m0 : 0 < m) (m1 : m ≤ 1000) : s__law_any s m ∧ NetOut (t__law_any s m) := by
  unfold s__law_any t__law_any
  have t3 := take_b (s := s) (most := 3) (by decide)
  have ib : InB ([("wide" : Str), ("tight" : Str), ("shut" : Str)] : List Str).length (t__law_take s 3).1 := inB_nat t3.1 t3.2
  refine hd_and ib (hd_bd (fun (z : Stm × Str) => z.2 ∈ ([("wide" : Str), ("tight" : Str), ("shut" : Str)] : List Str)) (ix_mem ib) ?_)
  rintro ⟨s1, kd⟩ hk
  dsimp only at hk ⊢
  have t4 := take_b (s := s1) (most := 8) (by decide)
  refine hd_bd (fun (z : Stm × Int) => 1 ≤ z.2 ∧ z.2 ≤ 8) (by dsimp only; omega) ?_
  rintro ⟨s2, nl⟩ ⟨l1, l8⟩
  dsimp only at l1 l8 ⊢
  have t5 := take_b (s := s2) (most := 13 - nl) (by omega)
  refine hd_and (by omega) (hd_bd (fun (z : Stm × Int) => nl ≤ z.2 ∧ z.2 ≤ 12) (by dsimp only; omega) ?_)
  rintro ⟨s3, ns⟩ ⟨n1, n12⟩
  dsimp only at n1 n12 ⊢
  have lm := lcS_map (S := fun (_ : Int) (s : Stm) => s__law_line s kd m) (e := fun (_ : Int) (s : Stm) => ((t__law_line s kd m).1, (t__law_line s kd m).2)) (fun (_ : Int) (y : Line) => LnK kd y) (rangeI 0 nl) s3 (fun x hx s => line_ok s hk m0 m1)
  have ll := lm.2.len
  rw [rangeI_len] at ll
  refine hd_and ⟨by omega, by omega⟩ (hd_and lm.1 (hd_and (by rw [rangeI_len]; omega) (hd_bd (fun (z : Stm × List Line) => z.2.length = nl ∧ ∀ y ∈ z.2, LnK kd y) ⟨by dsimp only; omega, lm.2.right (fun _ _ _ h => h)⟩ ?_)))
  rintro ⟨s4, ls⟩ ⟨q1, q2⟩
  dsimp only at q1 q2 ⊢
  refine hd_eq (hd_and ⟨by omega, by omega⟩ ?_)
  refine hd_fold (MadeI kd nl ns) ⟨rfl, fun y hy => (by cases hy), fun j hj => (by cases hj)⟩ (fun k hk z hz => ?_) ?_
  · obtain ⟨s5, ma⟩ := z
    obtain ⟨z1, z2, z3⟩ := hz
    dsimp only at z1 z2 z3 ⊢
    have hk2 := hk
    rw [rangeI_len] at hk2
    rw [rangeI_get hk]
    have x0 : (0 : Int) + (k : Int) = (k : Int) := by omega
    rw [x0]
    refine hd_eq (P := MadeI kd nl ns (k + 1)) ?_
    refine hd_and (fun _ => by omega) (hd_bd (fun (z : Stm × Int) => 0 ≤ z.2 ∧ z.2 < nl ∧ ((k : Int) < nl → z.2 = k)) ?_ ?_)
    · have tb := take_b (s := s5) (most := nl) (by omega)
      by_cases e : nl ≤ (k : Int)
      · simp only [e, decide_true, cond_true]
        exact ⟨tb.1, tb.2, fun z => by omega⟩
      · simp only [e, decide_false, cond_false]
        exact ⟨by show 0 ≤ (k : Int); omega, by show (k : Int) < nl; omega, by simp⟩
    rintro ⟨s6, li⟩ ⟨a0, a1, a2⟩
    dsimp only at a0 a1 a2 ⊢
    obtain ⟨o1, o2⟩ := some_ok s6 m0 m1
    obtain ⟨g1, g2⟩ := goes_ok (t__law_some s6 m).2 (n := ns) (decide (kd = "shut")) (by omega) (by omega)
    refine ⟨⟨o1, g1, by omega⟩, ?_, ?_, ?_⟩
    · show (ma ++ [_]).length = k + 1
      rw [List.length_append, z1]; rfl
    · intro y hy
      rcases List.mem_append.mp hy with hy | hy
      · exact z2 y hy
      · rw [show y = _ from List.mem_singleton.mp hy]
        exact ⟨a0, a1, o2.1, o2.2, g2⟩
    · intro j hj hjn
      have hj' : j < (ma ++ [_]).length := hj
      show (ma ++ [_])[j].1 = _
      rw [List.length_append, List.length_singleton] at hj'
      by_cases e : j < ma.length
      · rw [List.getElem_append_left e]; exact z3 j e hjn
      · have : j = k := by omega
        subst this
        rw [List.getElem_append_right (by omega)]
        simp only [z1, Nat.sub_self, List.getElem_cons_zero]
        exact a2 hjn
  rintro ⟨s5, ma⟩ ⟨z1, z2, z3⟩
  dsimp only at z1 z2 z3 ⊢
  rw [rangeI_len] at z1
  obtain ⟨c1, c2⟩ := comers_ok s5 (kd := kd) (n := ns) (by omega) n12 m0 m1
  refine ⟨c1, ?_⟩
  have us : ∀ i : Nat, i < ls.length → ∃ st ∈ ma, st.1 = (i : Int) := fun i hi => ⟨ma[i], List.getElem_mem (by omega), z3 i (by omega) (by omega)⟩
  have gst : ∀ st ∈ ma, GoodStand ls.length ma.length st := fun st hs => by
    obtain ⟨y0, y1, y2, y3, y4⟩ := z2 st hs
    exact ⟨y0, by omega, ⟨y2, y3⟩, fun w hw => by have := y4.wy w hw; exact ⟨this.1, by omega, this.2.2.1, this.2.2.2⟩, y4.up, y4.le⟩
  show GoodNet ls ma (t__law_comers s5 kd ns m).1
  rcases c2 with ⟨e, cs, ec, d1, d2, d3, d4⟩ | ⟨e, qs, ec, d1, d2, d3⟩
  · rw [ec]
    refine ⟨by omega, by omega, by omega, by omega, fun l hl => (q2 l hl).g, gst, us, .inr ⟨rfl, cs, rfl, by omega, d2, d3, d4, fun l hl => ((q2 l hl).s e).1, fun st hs => (z2 st hs).2.2.2.2.fu (decide_eq_true e), fun i hi => ?_⟩⟩
    rcases ((q2 _ (List.getElem_mem hi)).s e).2 with h | h
    · exact .inl h
    · right
      have := begins_le (ss := ma) (i : Int) d2
      omega
  · rw [ec]
    refine ⟨by omega, by omega, by omega, by omega, fun l hl => (q2 l hl).g, gst, us, .inl ⟨rfl, qs, rfl, by omega, d2, d3, ?_⟩⟩
    simp only [List.mem_cons, List.not_mem_nil, or_false] at hk
    rcases hk with h | h | h
    · exact .inl fun l hl => (q2 l hl).w h
    · exact .inr fun l hl => (q2 l hl).t h
    · exact absurd h e
theorem number_ok {q : Rat} (h : SmQ q) : s__law_number q ∧ t__law_number q = t_fraction_text q := by
  obtain ⟨h0, h1, h2⟩ := h
  have l1 := strI_len h0 h1
  have l2 := strI_len (z := (q.den : Int)) (by omega) (by omega)
  have l3 : ("/" : Str).length = 1 := by decide +kernel
  unfold s__law_number
  exact ⟨⟨fun _ => ⟨by omega, by omega⟩, fun _ => ⟨⟨by omega, by omega⟩, by omega, ⟨by omega, by omega⟩, by rw [len_app]; omega⟩⟩, rfl⟩
theorem sp1 : (" " : Str).length = 1 := by decide +kernel
theorem nums_fold : ∀ (qs : List Rat) (n : Nat) (z : Str), z.length ≤ n → n + qs.length * 10 ≤ 1000 → (∀ q ∈ qs, SmQ q) →
    sfl (fun (z2 : Str) (x : Rat) => bd ((z2 ++ (" " : Str)) ++ (t__law_number x)) (fun (v : Str) => v)) (fun (z2 : Str) (x : Rat) => ((z2.length + ((" " : Str)).length ≤ 10000000) ∧ (s__law_number x) ∧ (((z2 ++ (" " : Str))).length + ((t__law_number x)).length ≤ 10000000))) qs z ∧
    qs.foldl (fun (z2 : Str) (x : Rat) => bd ((z2 ++ (" " : Str)) ++ (t__law_number x)) (fun (v : Str) => v)) z = (qs.map fun q => t_fraction_text q).foldl (fun a y => a ++ (" " : Str) ++ y) z
  | [], n, z, _, _, _ => ⟨trivial, rfl⟩
  | q :: qs, n, z, hz, hn, hq => by
    have g := hq q (by simp)
    obtain ⟨n1, n2⟩ := number_ok g
    have f := (ft_ok g).2
    rw [List.length_cons] at hn
    obtain ⟨h1, h2⟩ := nums_fold qs (n + 10) ((z ++ " ") ++ t__law_number q) (by rw [len_app, len_app, sp1, n2]; omega) (by omega) (fun x hx => hq x (List.mem_cons_of_mem _ hx))
    refine ⟨⟨⟨by rw [sp1]; omega, n1, by rw [len_app, n2, sp1]; omega⟩, h1⟩, ?_⟩
    rw [List.foldl_cons, bd_eq, h2, n2]; rfl
def At (t : Str) (n : Nat) (x : Str) : Prop := x = t ∧ x.length ≤ n
def RowI (t : Str) (x : Str) : Prop := x = t
theorem sp2 (a x : Str) : a ++ (" " : Str) ++ ("more" : Str) ++ (" " : Str) ++ x = a ++ (" more " : Str) ++ x := by
  rw [app_as a " " "more", app_as a _ " ", show ((" " : Str) ++ ("more" : Str)) ++ (" " : Str) = (" more " : Str) from by decide +kernel]
theorem sp3 (a x y : Str) : a ++ (" " : Str) ++ ("room" : Str) ++ (" " : Str) ++ x ++ (" " : Str) ++ y = a ++ (" room " : Str) ++ x ++ (" " : Str) ++ y := by
  rw [app_as a " " "room", app_as a _ " ", show ((" " : Str) ++ ("room" : Str)) ++ (" " : Str) = (" room " : Str) from by decide +kernel]
theorem lrow_ok {l : Line} (h : GoodLine l) : s__law_line_row l ∧ RowI (t_line_row l) (t__law_line_row l) := by
  have r0 := h.r0
  have r9 := h.r9
  have n6 := h.n6
  obtain ⟨n1, n2⟩ := number_ok h.mo
  have f := (ft_ok h.mo).2
  have f3 := strI_len r0 (by omega)
  have f4 := rule_len h
  have lm : (" more " : Str).length = 6 := by decide +kernel
  have lr : (" room " : Str).length = 6 := by decide +kernel
  have l0 : ("line speeds" : Str).length = 11 := by decide +kernel
  unfold s__law_line_row t__law_line_row
  obtain ⟨g1, g2⟩ := nums_fold l.1 11 "line speeds" (by rw [l0]; omega) (by omega) fun q hq => (h.sp q hq).1
  have e0 : Txt.join " " (([("line" : Str), ("speeds" : Str)] : List Str) ++ l.1.map fun q => t_fraction_text q) = (l.1.map fun q => t_fraction_text q).foldl (fun a y => a ++ (" " : Str) ++ y) ("line speeds" : Str) := by
    rw [join_app _ _ (by simp), show Txt.join " " [("line" : Str), ("speeds" : Str)] = ("line speeds" : Str) from by decide +kernel]
  have e1 : (Txt.join " " (([("line" : Str), ("speeds" : Str)] : List Str) ++ l.1.map fun q => t_fraction_text q)).length ≤ 100 := by
    have a1 : Wl 8 9 ((([("line" : Str), ("speeds" : Str)] : List Str) ++ l.1.map fun q => t_fraction_text q)) := (wlc (by decide +kernel) (wlc (by decide +kernel) wl0)).app (wlm h.n6 fun q hq => (ft_ok (h.sp q hq).1).2)
    have := (a1.join " ").1
    rw [sp1] at this; omega
  have ej : t_line_row l = Txt.join " " (lineW l) := line_row_eq l
  unfold lineW at ej
  rw [ej, ← List.append_assoc]
  clear ej
  generalize hW : ([("line" : Str), ("speeds" : Str)] : List Str) ++ l.1.map (fun q => t_fraction_text q) = W at e0 e1 ⊢
  have wne : W ≠ [] := by rw [← hW]; simp
  rw [← e0] at g2
  refine hd_eq (hd_and g1 (hd_bd (At (Txt.join " " W) 100) ⟨g2, by rw [g2]; exact e1⟩ ?_))
  rintro _ ⟨rfl, z1⟩
  have e2 : Txt.join " " (W ++ [("more" : Str), t_fraction_text l.2.1]) = (Txt.join " " W ++ (" more " : Str)) ++ t_fraction_text l.2.1 := by
    rw [join_app _ _ wne]
    exact sp2 _ _
  refine hd_and (fun _ => ⟨by rw [lm]; omega, n1, by rw [len_app, n2, lm]; omega⟩) (hd_bd (At (Txt.join " " (W ++ (cond (!decide (l.2.1 = 0)) [("more" : Str), t_fraction_text l.2.1] []))) 200) ?_ ?_)
  · cases (!decide (l.2.1 = 0)) with
    | true =>
      rw [cond_true, cond_true, e2, bd_eq, n2]
      exact ⟨rfl, by rw [len_app, len_app, lm]; omega⟩
    | false =>
      rw [cond_false, cond_false, List.append_nil]
      exact ⟨rfl, by omega⟩
  generalize hV : W ++ (cond (!decide (l.2.1 = 0)) [("more" : Str), t_fraction_text l.2.1] []) = V
  have vne : V ≠ [] := by rw [← hV]; simp [wne]
  rintro _ ⟨rfl, z2⟩
  have e3 : Txt.join " " (V ++ [("room" : Str), strI l.2.2.1, l.2.2.2]) = (((Txt.join " " V ++ (" room " : Str)) ++ strI l.2.2.1) ++ (" " : Str)) ++ l.2.2.2 := by
    rw [join_app _ _ vne]
    exact sp3 _ _ _
  refine ⟨fun _ => ⟨by rw [lr]; omega, ⟨by omega, by omega⟩, by rw [len_app, lr]; omega, by rw [len_app, len_app, lr, sp1]; omega, by rw [len_app, len_app, len_app, lr, sp1]; omega⟩, ?_⟩
  cases decide (0 < l.2.2.1) with
  | true => rw [cond_true, cond_true, e3]; exact rfl
  | false => rw [cond_false, cond_false, List.append_nil]; exact rfl
theorem sp4 (a x y : Str) : a ++ (" " : Str) ++ ("to" : Str) ++ (" " : Str) ++ x ++ (" " : Str) ++ y = a ++ (" to " : Str) ++ x ++ (" " : Str) ++ y := by
  rw [app_as a " " "to", app_as a _ " ", show ((" " : Str) ++ ("to" : Str)) ++ (" " : Str) = (" to " : Str) from by decide +kernel]
theorem ways_fold : ∀ (ws : List Way) (n : Nat) (W : List Str), W ≠ [] → (Txt.join " " W).length ≤ n → n + ws.length * 18 ≤ 1000 → (∀ w ∈ ws, 0 ≤ w.1 ∧ w.1 ≤ 12 ∧ SmQ w.2) →
    sfl (fun (z12 : Str) (xv13 : Way) => bd ((((z12 ++ (" to " : Str)) ++ (strI xv13.1)) ++ (" " : Str)) ++ (t__law_number xv13.2)) (fun (v_row_14 : Str) => v_row_14)) (fun (z12 : Str) (xv13 : Way) => ((z12.length + ((" to " : Str)).length ≤ 10000000) ∧ (-1000000000 < xv13.1 ∧ xv13.1 < 1000000000) ∧ (((z12 ++ (" to " : Str))).length + ((strI xv13.1)).length ≤ 10000000) ∧ ((((z12 ++ (" to " : Str)) ++ (strI xv13.1))).length + ((" " : Str)).length ≤ 10000000) ∧ (s__law_number xv13.2) ∧ (((((z12 ++ (" to " : Str)) ++ (strI xv13.1)) ++ (" " : Str))).length + ((t__law_number xv13.2)).length ≤ 10000000))) ws (Txt.join " " W) ∧
    ws.foldl (fun (z12 : Str) (xv13 : Way) => bd ((((z12 ++ (" to " : Str)) ++ (strI xv13.1)) ++ (" " : Str)) ++ (t__law_number xv13.2)) (fun (v_row_14 : Str) => v_row_14)) (Txt.join " " W) = Txt.join " " (W ++ wayW ws)
  | [], n, W, _, _, _, _ => ⟨trivial, by rw [show wayW [] = [] from rfl, List.append_nil]; rfl⟩
  | w :: ws, n, W, hW, hz, hn, hq => by
    obtain ⟨a0, a1, g⟩ := hq w (by simp)
    obtain ⟨n1, n2⟩ := number_ok g
    have f := (ft_ok g).2
    have f3 := strI_len a0 (by omega)
    have lt : (" to " : Str).length = 4 := by decide +kernel
    rw [List.length_cons] at hn
    have e : (((Txt.join " " W ++ (" to " : Str)) ++ (strI w.1)) ++ (" " : Str)) ++ (t__law_number w.2) = Txt.join " " (W ++ [("to" : Str), strI w.1, t_fraction_text w.2]) := by
      rw [join_app _ _ hW, n2]
      exact (sp4 _ _ _).symm
    obtain ⟨h1, h2⟩ := ways_fold ws (n + 18) (W ++ [("to" : Str), strI w.1, t_fraction_text w.2]) (by simp) (by rw [← e]; simp only [len_app, n2, sp1, lt]; omega) (by omega) (fun x hx => hq x (List.mem_cons_of_mem _ hx))
    refine ⟨⟨⟨by rw [lt]; omega, ⟨by omega, by omega⟩, by simp only [len_app, lt]; omega, by simp only [len_app, lt, sp1]; omega, n1, by simp only [len_app, n2, sp1, lt]; omega⟩, ?_⟩, ?_⟩
    · rw [show (fun (z12 : Str) (xv13 : Way) => bd ((((z12 ++ (" to " : Str)) ++ (strI xv13.1)) ++ (" " : Str)) ++ (t__law_number xv13.2)) (fun (v_row_14 : Str) => v_row_14)) (Txt.join " " W) w = _ from e]; exact h1
    · rw [List.foldl_cons, bd_eq, e, h2, List.append_assoc]; rfl
theorem sp5 (a x : Str) (w w2 : Str) (h : ((" " : Str) ++ w) ++ (" " : Str) = w2) : a ++ (" " : Str) ++ w ++ (" " : Str) ++ x = a ++ w2 ++ x := by
  rw [app_as a " " w, app_as a _ " ", h]
theorem srow_ok {nl ns : Nat} {s : Stand} {kd : Str} {e : NE} (h8 : nl ≤ 8) (h12 : ns ≤ 12) (h : GoodStand nl ns s) (k : NumOk kd e) : s__law_stand_row s kd e ∧ RowI (t_stand_row s kd e) (t__law_stand_row s kd e) := by
  have l0 := h.l0
  have l1 := h.l1
  have wl := ways_len h
  obtain ⟨n1, n2⟩ := number_ok h.ra.1
  have f := (ft_ok h.ra.1).2
  have f3 := strI_len l0 (by omega)
  have k1 : ("stand " : Str).length = 6 := by decide +kernel
  have k2 : (" rate " : Str).length = 6 := by decide +kernel
  have k3 : (" comes " : Str).length = 7 := by decide +kernel
  have k4 : (" begins " : Str).length = 8 := by decide +kernel
  rw [stand_row_eq]
  unfold standW
  have e0 : Txt.join " " [("stand" : Str), strI s.1, ("rate" : Str), t_fraction_text s.2.1] = ((("stand " : Str) ++ (strI s.1)) ++ (" rate " : Str)) ++ (t_fraction_text s.2.1) := by
    show ((((("stand" : Str) ++ (" " : Str)) ++ strI s.1) ++ (" " : Str)) ++ ("rate" : Str)) ++ (" " : Str) ++ t_fraction_text s.2.1 = _
    rw [show ("stand" : Str) ++ (" " : Str) = ("stand " : Str) from by decide +kernel]
    exact sp5 _ _ _ _ (by decide +kernel)
  unfold s__law_stand_row t__law_stand_row
  refine hd_and ⟨by omega, by omega⟩ (hd_and (by rw [k1]; omega) (hd_and (by rw [len_app, k1, k2]; omega) (hd_and n1 (hd_and (by simp only [len_app, n2, k1, k2]; omega) (hd_bd (At (Txt.join " " [("stand" : Str), strI s.1, ("rate" : Str), t_fraction_text s.2.1]) 30) ⟨by rw [n2, e0], by simp only [len_app, n2, k1, k2]; omega⟩ ?_)))))
  generalize hW : [("stand" : Str), strI s.1, ("rate" : Str), t_fraction_text s.2.1] = W
  have wne : W ≠ [] := by rw [← hW]; simp
  rintro _ ⟨rfl, z1⟩
  have z0 : mkq (0, 1) = 0 := mkq_one
  have key : ∀ V : List Str, V ≠ [] → (Txt.join " " V).length ≤ 60 → ∀ {z : Str}, At (Txt.join " " V) 60 z → (sfl (fun (z12 : Str) (xv13 : Way) => bd ((((z12 ++ (" to " : Str)) ++ (strI xv13.1)) ++ (" " : Str)) ++ (t__law_number xv13.2)) (fun (v_row_14 : Str) => v_row_14)) (fun (z12 : Str) (xv13 : Way) => ((z12.length + ((" to " : Str)).length ≤ 10000000) ∧ (-1000000000 < xv13.1 ∧ xv13.1 < 1000000000) ∧ (((z12 ++ (" to " : Str))).length + ((strI xv13.1)).length ≤ 10000000) ∧ ((((z12 ++ (" to " : Str)) ++ (strI xv13.1))).length + ((" " : Str)).length ≤ 10000000) ∧ (s__law_number xv13.2) ∧ (((((z12 ++ (" to " : Str)) ++ (strI xv13.1)) ++ (" " : Str))).length + ((t__law_number xv13.2)).length ≤ 10000000))) s.2.2 z) ∧ RowI (Txt.join " " (V ++ wayW s.2.2)) (bd (s.2.2.foldl (fun (z12 : Str) (xv13 : Way) => bd ((((z12 ++ (" to " : Str)) ++ (strI xv13.1)) ++ (" " : Str)) ++ (t__law_number xv13.2)) (fun (v_row_14 : Str) => v_row_14)) z) (fun (z15 : Str) => z15)) := by
    rintro V vne vl _ ⟨rfl, hz⟩
    exact ways_fold s.2.2 60 V vne vl (by omega) fun w hw => by have := h.wy w hw; exact ⟨this.1, by omega, this.2.2.1⟩
  unfold t_comer_words
  rcases k with ⟨rfl, q, rfl, hq⟩ | ⟨rfl, n, rfl, c0, c8⟩
  · have fq := (ft_ok hq).2
    obtain ⟨m1, m2⟩ := number_ok hq
    rw [show decide (("open" : Str) = ("shut" : Str)) = false from by decide, show decide (("open" : Str) = ("open" : Str)) = true from by decide]
    simp only [Bool.true_and, Bool.false_and, z0]
    have e2 : Txt.join " " (W ++ [("comes" : Str), t_fraction_text q]) = (Txt.join " " W ++ (" comes " : Str)) ++ t_fraction_text q := by
      rw [join_app _ _ wne]
      exact sp5 _ _ _ _ (by decide +kernel)
    refine hd_and (fun _ => isq_one) (hd_and (fun _ => ⟨by rw [k3]; omega, rfl, m1, by show ((_ ++ _ : Str).length + (t__law_number q).length ≤ _); rw [len_app, m2, k3]; omega⟩) (hd_bd (At (Txt.join " " (W ++ cond (neqQ (.inl q) 0) [("comes" : Str), t_fraction_text (neQ (.inl q))] (cond false [("begins" : Str), strI (neI (.inl q))] []))) 60) ?_ ?_))
    · cases neqQ (.inl q) 0 with
      | true =>
        rw [cond_true, cond_true, bd_eq]
        show At (Txt.join " " (W ++ [("comes" : Str), t_fraction_text q])) 60 ((Txt.join " " W ++ (" comes " : Str)) ++ t__law_number q)
        rw [e2, m2]
        exact ⟨rfl, by simp only [len_app, k3]; omega⟩
      | false =>
        rw [cond_false, cond_false, cond_false, List.append_nil]
        exact ⟨rfl, by omega⟩
    rintro z hz
    refine hd_and (fun z => by cases z) (hd_and (fun z => by cases z) ?_)
    rw [cond_false]
    refine hd_eq ?_
    exact key _ (by simp [wne]) (by have := hz.2; rw [hz.1] at this; exact this) hz
  · rw [show decide (("shut" : Str) = ("open" : Str)) = false from by decide, show decide (("shut" : Str) = ("shut" : Str)) = true from by decide]
    simp only [Bool.true_and, Bool.false_and, z0]
    have fn := strI_len c0 (by omega)
    have e2 : Txt.join " " (W ++ [("begins" : Str), strI n]) = (Txt.join " " W ++ (" begins " : Str)) ++ strI n := by
      rw [join_app _ _ wne]
      exact sp5 _ _ _ _ (by decide +kernel)
    refine hd_and (fun z => by cases z) (hd_and (fun z => by cases z) ?_)
    rw [cond_false, cond_false]
    refine hd_eq ?_
    refine hd_and (fun _ => rfl) (hd_and (fun _ => ⟨by rw [k4]; omega, rfl, ⟨by show -1000000000 < n; omega, by show n < 1000000000; omega⟩, by show ((_ ++ _ : Str).length + (strI n).length ≤ _); rw [len_app, k4]; omega⟩) (hd_bd (At (Txt.join " " (W ++ cond (decide (0 < neI (.inr n))) [("begins" : Str), strI (neI (.inr n))] [])) 60) ?_ ?_))
    · cases decide (0 < neI (.inr n)) with
      | true =>
        rw [cond_true, cond_true, bd_eq]
        show At (Txt.join " " (W ++ [("begins" : Str), strI n])) 60 ((Txt.join " " W ++ (" begins " : Str)) ++ strI n)
        rw [e2]
        exact ⟨rfl, by simp only [len_app, k4]; omega⟩
      | false =>
        rw [cond_false, cond_false, List.append_nil]
        exact ⟨rfl, by omega⟩
    rintro z hz
    exact key _ (by simp [wne]) (by have := hz.2; rw [hz.1] at this; exact this) hz
theorem rows_fold (kd : Str) : ∀ (xs : List (Stand × NE)) (z : List Str), z.length + xs.length ≤ 100 → (∀ x ∈ xs, s__law_stand_row x.1 kd x.2 ∧ RowI (t_stand_row x.1 kd x.2) (t__law_stand_row x.1 kd x.2)) →
    sfl (fun (z5 : ((List Str))) (xv6 : (Stand × NE)) => bd (z5 ++ [(t__law_stand_row xv6.1 kd xv6.2)]) (fun (v_rows_here_7 : (List Str)) => v_rows_here_7)) (fun (z5 : ((List Str))) (xv6 : (Stand × NE)) => ((s__law_stand_row xv6.1 kd xv6.2) ∧ (z5.length < 10000))) xs z ∧
    xs.foldl (fun (z5 : ((List Str))) (xv6 : (Stand × NE)) => bd (z5 ++ [(t__law_stand_row xv6.1 kd xv6.2)]) (fun (v_rows_here_7 : (List Str)) => v_rows_here_7)) z = z ++ xs.map fun x => t_stand_row x.1 kd x.2
  | [], z, _, _ => ⟨trivial, by simp⟩
  | x :: xs, z, hl, h => by
    rw [List.length_cons] at hl
    obtain ⟨g1, g2⟩ := h x (by simp)
    obtain ⟨h1, h2⟩ := rows_fold kd xs (z ++ [t__law_stand_row x.1 kd x.2]) (by rw [List.length_append]; show _ + 1 + _ ≤ _; omega) fun y hy => h y (List.mem_cons_of_mem _ hy)
    refine ⟨⟨⟨g1, by omega⟩, h1⟩, ?_⟩
    rw [List.foldl_cons, bd_eq, h2, show t__law_stand_row x.1 kd x.2 = _ from g2]
    simp
theorem rows_ok {net : Net} (g : GoodNet net.1 net.2.1 net.2.2) : s__law_rows net ∧ t__law_rows net = t_net_rows net := by
  have l8 := g.l8
  have s12 := g.s12
  have zl := zip_len net.2.1 (numNE net.2.2.2)
  have el : net.1.map (fun l => t__law_line_row l) = net.1.map (fun l => t_line_row l) := List.map_congr_left fun l hl => (lrow_ok (g.ln l hl)).2
  obtain ⟨h1, h2⟩ := rows_fold net.2.2.1 (net.2.1.zip (numNE net.2.2.2)) ([net.2.2.1] ++ net.1.map fun l => t__law_line_row l) (by rw [List.length_append, List.length_map]; show 1 + _ + _ ≤ _; omega) fun x hx => srow_ok g.l8 g.s12 (zip_ok g x hx).1 (zip_ok g x hx).2
  unfold s__law_rows t__law_rows
  refine ⟨⟨fun l hl => (lrow_ok (g.ln l hl)).1, by omega, by rw [List.length_map]; show 1 + _ ≤ _; omega, h1⟩, ?_⟩
  rw [net_rows_eq]
  unfold rowsW
  refine h2.trans ?_
  rw [el]
theorem text_fold : ∀ (xs : List Str) (n : Nat) (z : Str), z.length ≤ n → n + xs.length * 500 ≤ 100000 → (∀ x ∈ xs, x.length ≤ 420) →
    sfl (fun (z2 : Str) (xv3 : Str) => bd ((z2 ++ xv3) ++ ("\n" : Str)) (fun (v_found_4 : Str) => v_found_4)) (fun (z2 : Str) (xv3 : Str) => ((z2.length + xv3.length ≤ 10000000) ∧ (((z2 ++ xv3)).length + (("\n" : Str)).length ≤ 10000000))) xs z ∧
    xs.foldl (fun (z2 : Str) (xv3 : Str) => bd ((z2 ++ xv3) ++ ("\n" : Str)) (fun (v_found_4 : Str) => v_found_4)) z = (xs.map fun r => r ++ ("\n" : Str)).foldl (fun a y => a ++ y) z
  | [], _, _, _, _, _ => ⟨trivial, rfl⟩
  | x :: xs, n, z, hz, hn, h => by
    rw [List.length_cons] at hn
    have hx := h x (by simp)
    have ln : ("\n" : Str).length = 1 := by decide +kernel
    obtain ⟨h1, h2⟩ := text_fold xs (n + 500) ((z ++ x) ++ ("\n" : Str)) (by rw [len_app, len_app, ln]; omega) (by omega) fun y hy => h y (List.mem_cons_of_mem _ hy)
    refine ⟨⟨⟨by omega, by rw [len_app, ln]; omega⟩, h1⟩, ?_⟩
    rw [List.foldl_cons, bd_eq, h2, List.map_cons, List.foldl_cons, app_as z x]
theorem text_ok {net : Net} (g : GoodNet net.1 net.2.1 net.2.2) : s__law_text (t__law_rows net) ∧ t__law_text (t__law_rows net) = t_net_text net := by
  obtain ⟨h1, h2⟩ := net_rows_ok g
  have l0 : ("" : Str).length = 0 := by decide +kernel
  rw [(rows_ok g).2]
  obtain ⟨f1, f2⟩ := text_fold (t_net_rows net) 0 "" (by rw [l0]; omega) (by have := h2.1; omega) h2.2
  unfold s__law_text t__law_text t_net_text
  rw [Tex.join_nil]
  exact ⟨f1, f2⟩
theorem copy_ok {net : Net} (g : GoodNet net.1 net.2.1 net.2.2) : s__law_copy net ∧ t__law_copy net = net := by
  have l8 := g.l8
  have s12 := g.s12
  unfold s__law_copy t__law_copy
  refine ⟨⟨by omega, by show _ ≤ 10000; omega⟩, ?_⟩
  obtain ⟨ls, ss, c⟩ := net
  show (ls.map (fun l => l), ss.map (fun s => s), c) = _
  rw [List.map_id', List.map_id']
theorem law_true {ns : List Int} : fn_law [.scr ns] = .ok (.bl true) .ff .non := by
  have key : s_law ns ∧ IsT (t_law ns) := by
    unfold s_law t_law
    refine hd_flwT (fun _ => True) trivial (fun k hk z _ => ?_) (fun z _ => (rfl : true = true))
    rw [mem_rangeI] at hk
    simp only [bd_eq]
    generalize t__law_stream ns k = s
    have t2 := take_b (s := s) (most := 2) (by decide)
    have ib : InB ([9, 1000] : List Int).length (t__law_take s 2).1 := inB_nat t2.1 t2.2
    have im := ix_mem ib
    generalize ix ([9, 1000] : List Int) (t__law_take s 2).1 = m at im
    generalize (t__law_take s 2).2 = s2
    have m0 : 0 < m ∧ m ≤ 1000 := by
      simp only [List.mem_cons, List.not_mem_nil, or_false] at im
      omega
    obtain ⟨a1, a2⟩ := any_ok s2 m0.1 m0.2
    have g : GoodNet (t__law_any s2 m).1.1 (t__law_any s2 m).1.2.1 (t__law_any s2 m).1.2.2 := a2
    generalize (t__law_any s2 m).1 = net at g
    obtain ⟨c1, c2⟩ := copy_ok g
    obtain ⟨d1, d2⟩ := net_text_ok g
    obtain ⟨e1, e2⟩ := rows_ok g
    obtain ⟨f1, f2⟩ := text_ok g
    refine ⟨⟨⟨by omega, by omega⟩, ib, a1, g, c1, d1, fun _ => ⟨e1, f1, fun _ => ⟨?_, ?_, fun _ => c2.symm⟩⟩⟩, (), ?_, trivial⟩
    · exact okE_net g
    · show OkE eNet (t__law_copy net)
      rw [c2]; exact okE_net g
    · show cond ((!true) || ((!decide (t_net_text net = t__law_text (t__law_rows net))) || (!decide (net = t__law_copy net)))) _ _ = _
      rw [f2, c2, decide_eq_true rfl, decide_eq_true rfl]
      rfl
  rw [e_law key.1, show t_law ns = true from key.2]
end K06
namespace K06
open PySem PySem.Spec PyProof.Rows L2 Dt
namespace Wk
def topS (i : Nat) : Stmt := PySem.Challenge.pw_restlines_k06_texts.main.body.getD i (.Pass ⟨0, 0, 0, 0⟩)
abbrev s_common : Stmt := topS 7
abbrev s_fraction : Stmt := topS 8
abbrev s_plus : Stmt := topS 9
abbrev s_is_less : Stmt := topS 10
abbrev s_total : Stmt := topS 11
abbrev s_ask : Stmt := topS 22
abbrev s_ask_fraction : Stmt := topS 23
abbrev s_ask_line : Stmt := topS 24
abbrev s_ask_stand : Stmt := topS 25
abbrev s_ask_rates : Stmt := topS 26
abbrev s_ask_counts : Stmt := topS 27
abbrev s_ask_net : Stmt := topS 28
abbrev s_made_net : Stmt := topS 29
abbrev s_fraction_text : Stmt := topS 31
abbrev s_line_row : Stmt := topS 32
abbrev s_comer_words : Stmt := topS 33
abbrev s_stand_row : Stmt := topS 34
abbrev s_net_rows : Stmt := topS 35
abbrev s_net_text : Stmt := topS 36
abbrev s__law_stream : Stmt := topS 38
abbrev s__law_take : Stmt := topS 39
abbrev s__law_fraction : Stmt := topS 40
abbrev s__law_some : Stmt := topS 41
abbrev s__law_line : Stmt := topS 42
abbrev s__law_goes : Stmt := topS 43
abbrev s__law_comers : Stmt := topS 44
abbrev s__law_any : Stmt := topS 45
abbrev s__law_number : Stmt := topS 46
abbrev s__law_line_row : Stmt := topS 47
abbrev s__law_stand_row : Stmt := topS 48
abbrev s__law_rows : Stmt := topS 49
abbrev s__law_text : Stmt := topS 50
abbrev s__law_copy : Stmt := topS 51
abbrev s_law : Stmt := topS 52
structure Txt (K : PySem.W.Frag) (mg : Str → Option Value) : Prop where
  f_common : FnIn K mg "common" s_common
  f_fraction : FnIn K mg "fraction" s_fraction
  f_plus : FnIn K mg "plus" s_plus
  f_is_less : FnIn K mg "is_less" s_is_less
  f_total : FnIn K mg "total" s_total
  f_ask : FnIn K mg "ask" s_ask
  f_ask_fraction : FnIn K mg "ask_fraction" s_ask_fraction
  f_ask_line : FnIn K mg "ask_line" s_ask_line
  f_ask_stand : FnIn K mg "ask_stand" s_ask_stand
  f_ask_rates : FnIn K mg "ask_rates" s_ask_rates
  f_ask_counts : FnIn K mg "ask_counts" s_ask_counts
  f_ask_net : FnIn K mg "ask_net" s_ask_net
  f_made_net : FnIn K mg "made_net" s_made_net
  f_fraction_text : FnIn K mg "fraction_text" s_fraction_text
  f_line_row : FnIn K mg "line_row" s_line_row
  f_comer_words : FnIn K mg "comer_words" s_comer_words
  f_stand_row : FnIn K mg "stand_row" s_stand_row
  f_net_rows : FnIn K mg "net_rows" s_net_rows
  f_net_text : FnIn K mg "net_text" s_net_text
  f__law_stream : FnIn K mg "_law_stream" s__law_stream
  f__law_take : FnIn K mg "_law_take" s__law_take
  f__law_fraction : FnIn K mg "_law_fraction" s__law_fraction
  f__law_some : FnIn K mg "_law_some" s__law_some
  f__law_line : FnIn K mg "_law_line" s__law_line
  f__law_goes : FnIn K mg "_law_goes" s__law_goes
  f__law_comers : FnIn K mg "_law_comers" s__law_comers
  f__law_any : FnIn K mg "_law_any" s__law_any
  f__law_number : FnIn K mg "_law_number" s__law_number
  f__law_line_row : FnIn K mg "_law_line_row" s__law_line_row
  f__law_stand_row : FnIn K mg "_law_stand_row" s__law_stand_row
  f__law_rows : FnIn K mg "_law_rows" s__law_rows
  f__law_text : FnIn K mg "_law_text" s__law_text
  f__law_copy : FnIn K mg "_law_copy" s__law_copy
  f_law : FnIn K mg "law" s_law
  b_abs : mg "abs" = none
  b_enumerate : mg "enumerate" = none
  b_isinstance : mg "isinstance" = none
  b_len : mg "len" = none
  b_list : mg "list" = none
  b_max : mg "max" = none
  b_min : mg "min" = none
  b_range : mg "range" = none
  b_sorted : mg "sorted" = none
  b_str : mg "str" = none
  b_sum : mg "sum" = none
  b_zip : mg "zip" = none
  c_MOST_COMERS : CnIn K mg "MOST_COMERS" (.int 8)
  c_MOST_LINES : CnIn K mg "MOST_LINES" (.int 8)
  c_MOST_ROOM : CnIn K mg "MOST_ROOM" (.int 9)
  c_MOST_SPEEDS : CnIn K mg "MOST_SPEEDS" (.int 6)
  c_MOST_STANDS : CnIn K mg "MOST_STANDS" (.int 12)
  c_NOUGHT : CnIn K mg "NOUGHT" (.tup [(.int 0), (.int 1)])
  c_ONE : CnIn K mg "ONE" (.tup [(.int 1), (.int 1)])
  c_OPEN : CnIn K mg "OPEN" (.str "open")
  c_RULES : CnIn K mg "RULES" (.tup [(.str "stay"), (.str "lose"), (.str "skip")])
  c_SHUT : CnIn K mg "SHUT" (.str "shut")
  c_SIZE : CnIn K mg "SIZE" (.int 1000)
  x_NoFraction : ExC K mg "NoFraction"
  x_NoNet : ExC K mg "NoNet"
variable {P : Program} {w : World} {K : PySem.W.Frag} {mg : Str → Option Value} {base : Heap}
theorem sc_common : FnScope ["one", "other"] ["one", "other"] (defScope s_common) := ⟨rfl, rfl, rfl, by decide +kernel, rfl, by decide +kernel, by decide +kernel⟩
theorem ok_common {P : Program} {w : World} {K : PySem.W.Frag} {mg : Str → Option Value} {base : Heap} (T : Txt K mg) : Ok P w K mg base "common" 33 2 none Std.fn_common := by
  refine ok_mk (N := ["one", "other"]) (ps := ["one", "other"]) (fb := Std.fb_common) T.f_common sc_common (by decide) (fun _ _ _ _ _ _ us hl => match us, hl with | [_, _], _ => rfl) (fun f cdv A outer s H E gd hr tk po => ?_)
  exact svs_cons (sv_while po (et_ne hr.units (ev_var 1) ev_int) (svs_one (sv_par (i := 0) (j := 1) rfl sc_common.nd (ea_cons (ev_var 1) (ea_cons (ev_mod (ev_var 0) (ev_var 1)) ea_nil)))))
    (svs_one (sv_ret (eo_move 0)))
theorem sc_fraction : FnScope ["above", "below", "share"] ["above", "below"] (defScope s_fraction) := ⟨rfl, rfl, rfl, by decide +kernel, rfl, by decide +kernel, by decide +kernel⟩
theorem ok_fraction {P : Program} {w : World} {K : PySem.W.Frag} {mg : Str → Option Value} {base : Heap} (T : Txt K mg) : Ok P w K mg base "fraction" 34 2 none Std.fn_fraction := by
  have g_common := ok_common (P := P) (w := w) (base := base) T
  refine ok_mk (N := ["above", "below", "share"]) (ps := ["above", "below"]) (fb := Std.fb_fraction) T.f_fraction sc_fraction (by decide) (fun _ _ _ _ _ _ us hl => match us, hl with | [_, _], _ => rfl) (fun f cdv A outer s H E gd hr tk po => ?_)
  exact svs_cons (sv_if (et_eq hr.units (ev_var 1) ev_int) (svs_one (sv_raise rfl tk T.x_NoFraction)) svs_nil)
    (svs_cons (sv_set (i := 2) (eo_fn g_common gd hr tk (ex_v (ev_abs T.b_abs (ea_cons (ev_var 0) ea_nil)) (ex_v (ev_abs T.b_abs (ea_cons (ev_var 1) ea_nil)) ex_nil))) sc_fraction.nd)
    (svs_cons (sv_if (et_lt (ev_var 1) ev_int) (svs_one (sv_set (i := 2) (eo_of (ev_sub ev_int (ev_var 2))) sc_fraction.nd)) svs_nil)
    (svs_one (sv_ret (eo_of (ev_tup (ea_cons (ev_fdiv gd hr (by decide) (ev_var 0) (ev_var 2)) (ea_cons (ev_fdiv gd hr (by decide) (ev_var 1) (ev_var 2)) ea_nil))))))))
theorem sc_plus : FnScope ["one", "other"] ["one", "other"] (defScope s_plus) := ⟨rfl, rfl, rfl, by decide +kernel, rfl, by decide +kernel, by decide +kernel⟩
theorem ok_plus {P : Program} {w : World} {K : PySem.W.Frag} {mg : Str → Option Value} {base : Heap} (T : Txt K mg) : Ok P w K mg base "plus" 35 2 none Std.fn_plus := by
  have g_fraction := ok_fraction (P := P) (w := w) (base := base) T
  refine ok_mk (N := ["one", "other"]) (ps := ["one", "other"]) (fb := Std.fb_plus) T.f_plus sc_plus (by decide) (fun _ _ _ _ _ _ us hl => match us, hl with | [_, _], _ => rfl) (fun f cdv A outer s H E gd hr tk po => ?_)
  exact svs_one (sv_ret (eo_fn g_fraction gd hr tk (ex_v (ev_add (ev_mul (ev_item (ev_var 0) ev_int) (ev_item (ev_var 1) ev_int)) (ev_mul (ev_item (ev_var 1) ev_int) (ev_item (ev_var 0) ev_int))) (ex_v (ev_mul (ev_item (ev_var 0) ev_int) (ev_item (ev_var 1) ev_int)) ex_nil))))
theorem sc_is_less : FnScope ["one", "other"] ["one", "other"] (defScope s_is_less) := ⟨rfl, rfl, rfl, by decide +kernel, rfl, by decide +kernel, by decide +kernel⟩
theorem ok_is_less {P : Program} {w : World} {K : PySem.W.Frag} {mg : Str → Option Value} {base : Heap} (T : Txt K mg) : Ok P w K mg base "is_less" 33 2 none Std.fn_is_less := by
  refine ok_mk (N := ["one", "other"]) (ps := ["one", "other"]) (fb := Std.fb_is_less) T.f_is_less sc_is_less (by decide) (fun _ _ _ _ _ _ us hl => match us, hl with | [_, _], _ => rfl) (fun f cdv A outer s H E gd hr tk po => ?_)
  exact svs_one (sv_ret (eo_of (ev_lt (ev_mul (ev_item (ev_var 0) ev_int) (ev_item (ev_var 1) ev_int)) (ev_mul (ev_item (ev_var 1) ev_int) (ev_item (ev_var 0) ev_int)))))
theorem sc_total : FnScope ["some", "found", "one"] ["some"] (defScope s_total) := ⟨rfl, rfl, rfl, by decide +kernel, rfl, by decide +kernel, by decide +kernel⟩
theorem ok_total {P : Program} {w : World} {K : PySem.W.Frag} {mg : Str → Option Value} {base : Heap} (T : Txt K mg) : Ok P w K mg base "total" 36 1 none Std.fn_total := by
  have g_plus := ok_plus (P := P) (w := w) (base := base) T
  refine ok_mk (N := ["some", "found", "one"]) (ps := ["some"]) (fb := Std.fb_total) T.f_total sc_total (by decide) (fun _ _ _ _ _ _ us hl => match us, hl with | [_], _ => rfl) (fun f cdv A outer s H E gd hr tk po => ?_)
  exact svs_cons (sv_set (i := 1) (eo_of (ev_const T.c_NOUGHT)) sc_total.nd)
    (svs_cons (sv_for po rfl (iv_list (ev_var 0)) (gv_name (i := 2) sc_total.nd) (svs_one (sv_set (i := 1) (eo_fn g_plus gd hr tk (ex_v (ev_var 1) (ex_v (ev_var 2) ex_nil))) sc_total.nd)))
    (svs_one (sv_ret (eo_move 1))))
abbrev N_ask : List Str := ["good", "words"]
theorem sc_ask : FnScope N_ask ["good", "words"] (defScope s_ask) := ⟨rfl, rfl, rfl, by decide +kernel, rfl, by decide +kernel, by decide +kernel⟩
theorem ok_ask (T : Txt K mg) : Ok P w K mg base "ask" 33 2 none Net.fn_ask := by
  refine ok_mk (N := N_ask) (ps := ["good", "words"]) (fb := Net.fb_ask) T.f_ask sc_ask (by decide) (fun _ _ _ _ _ _ us hl => match us, hl with | [_, _], _ => rfl) (fun f cdv A outer s H E gd hr tk po => ?_)
  exact svs_cons (sv_if (et_not (et_val (ev_var 0))) (svs_one (sv_raiseV rfl tk T.x_NoNet (ev_var 1))) svs_nil)
    svs_nil
abbrev N_ask_fraction : List Str := ["one", "above_nought", "above", "below"]
theorem sc_ask_fraction : FnScope N_ask_fraction ["one", "above_nought"] (defScope s_ask_fraction) := ⟨rfl, rfl, rfl, by decide +kernel, rfl, by decide +kernel, by decide +kernel⟩
theorem ok_ask_fraction (T : Txt K mg) : Ok P w K mg base "ask_fraction" 34 2 none Net.fn_ask_fraction := by
  have g_ask := ok_ask (P := P) (w := w) (base := base) T
  have g_common := ok_common (P := P) (w := w) (base := base) T
  refine ok_mk (N := N_ask_fraction) (ps := ["one", "above_nought"]) (fb := Net.fb_ask_fraction) T.f_ask_fraction sc_ask_fraction (by decide) (fun _ _ _ _ _ _ us hl => match us, hl with | [_, _], _ => rfl) (fun f cdv A outer s H E gd hr tk po => ?_)
  exact svs_cons (sv_asg (ev_var 0) (gv_tup rfl (gvs_cons (gv_name (i := 2) sc_ask_fraction.nd) (gvs_cons (gv_name (i := 3) sc_ask_fraction.nd) gvs_nil))))
    (svs_cons (sv_expr (ev_of (eo_fn g_ask gd hr tk (ex_v (ev_and (ev_chain op_le opd_B op_le opd_B ev_int (ev_var 2) (ev_const T.c_SIZE)) (ev_and (ev_chain op_le opd_B op_le opd_B ev_int (ev_var 3) (ev_const T.c_SIZE)) (ev_one (ev_eq hr.units (ev_of (eo_fn g_common gd hr tk (ex_v (ev_var 2) (ex_v (ev_var 3) ex_nil)))) ev_int)))) (ex_v ev_str ex_nil)))))
    (svs_cons (sv_expr (ev_of (eo_fn g_ask gd hr tk (ex_v (ev_or (ev_gt (ev_var 2) ev_int) (ev_one (ev_not (ev_var 1)))) (ex_v ev_str ex_nil)))))
    svs_nil))
abbrev N_ask_line : List Str := ["line", "one", "speeds", "more", "room", "rule", "other"]
theorem sc_ask_line : FnScope N_ask_line ["line"] (defScope s_ask_line) := ⟨rfl, rfl, rfl, by decide +kernel, rfl, by decide +kernel, by decide +kernel⟩
theorem ok_ask_line (T : Txt K mg) : Ok P w K mg base "ask_line" 35 1 none Net.fn_ask_line := by
  have g_ask := ok_ask (P := P) (w := w) (base := base) T
  have g_ask_fraction := ok_ask_fraction (P := P) (w := w) (base := base) T
  have g_is_less := ok_is_less (P := P) (w := w) (base := base) T
  refine ok_mk (N := N_ask_line) (ps := ["line"]) (fb := Net.fb_ask_line) T.f_ask_line sc_ask_line (by decide) (fun _ _ _ _ _ _ us hl => match us, hl with | [_], _ => rfl) (fun f cdv A outer s H E gd hr tk po => ?_)
  exact svs_cons (sv_asg (ev_var 0) (gv_tup rfl (gvs_cons (gv_name (i := 2) sc_ask_line.nd) (gvs_cons (gv_name (i := 3) sc_ask_line.nd) (gvs_cons (gv_name (i := 4) sc_ask_line.nd) (gvs_cons (gv_name (i := 5) sc_ask_line.nd) gvs_nil))))))
    (svs_cons (sv_expr (ev_of (eo_fn g_ask gd hr tk (ex_v (ev_chain op_le opd_B op_le opd_B ev_int (ev_len T.b_len (ea_cons (ev_var 2) ea_nil)) (ev_const T.c_MOST_SPEEDS)) (ex_v ev_str ex_nil)))))
    (svs_cons (sv_for po rfl (iv_list (ev_var 2)) (gv_name (i := 1) sc_ask_line.nd) (svs_cons (sv_expr (ev_of (eo_fn g_ask_fraction gd hr tk (ex_v (ev_var 1) (ex_v ev_bl ex_nil)))))
    (svs_kill (is := [1]) svs_nil)))
    (svs_cons (sv_for po rfl (iv_zip T.b_zip (ea_cons (ev_of (eo_slice (ev_var 2) ep_none (ep_some (ev_neg ev_int)))) (ea_cons (ev_of (eo_slice (ev_var 2) (ep_some ev_int) ep_none)) ea_nil))) (gv_tup rfl (gvs_cons (gv_name (i := 1) sc_ask_line.nd) (gvs_cons (gv_name (i := 6) sc_ask_line.nd) gvs_nil))) (svs_cons (sv_expr (ev_of (eo_fn g_ask gd hr tk (ex_v (ev_not (ev_of (eo_fn g_is_less gd hr tk (ex_v (ev_var 6) (ex_v (ev_var 1) ex_nil))))) (ex_v ev_str ex_nil)))))
    (svs_kill (is := [1, 6]) svs_nil)))
    (svs_cons (sv_expr (ev_of (eo_fn g_ask_fraction gd hr tk (ex_v (ev_var 3) (ex_v ev_bl ex_nil)))))
    (svs_cons (sv_expr (ev_of (eo_fn g_ask gd hr tk (ex_v (ev_chain op_le opd_B op_le opd_B ev_int (ev_var 4) (ev_const T.c_MOST_ROOM)) (ex_v ev_str ex_nil)))))
    (svs_cons (sv_if (et_eq hr.units (ev_var 4) ev_int) (svs_cons (sv_expr (ev_of (eo_fn g_ask gd hr tk (ex_v (ev_eq hr.units (ev_var 5) ev_str) (ex_v ev_str ex_nil)))))
    svs_nil) (svs_cons (sv_expr (ev_of (eo_fn g_ask gd hr tk (ex_v (ev_in (ev_var 5) (ev_const T.c_RULES)) (ex_v ev_str ex_nil)))))
    svs_nil))
    svs_nil))))))
abbrev N_ask_stand : List Str := ["stand", "lines", "many", "last", "line", "rate", "goes", "to", "share"]
theorem sc_ask_stand : FnScope N_ask_stand ["stand", "lines", "many"] (defScope s_ask_stand) := ⟨rfl, rfl, rfl, by decide +kernel, rfl, by decide +kernel, by decide +kernel⟩
theorem ok_ask_stand (T : Txt K mg) : Ok P w K mg base "ask_stand" 37 3 none Net.fn_ask_stand := by
  have g_ask := ok_ask (P := P) (w := w) (base := base) T
  have g_ask_fraction := ok_ask_fraction (P := P) (w := w) (base := base) T
  have g_is_less := ok_is_less (P := P) (w := w) (base := base) T
  have g_total := ok_total (P := P) (w := w) (base := base) T
  refine ok_mk (N := N_ask_stand) (ps := ["stand", "lines", "many"]) (fb := Net.fb_ask_stand) T.f_ask_stand sc_ask_stand (by decide) (fun _ _ _ _ _ _ us hl => match us, hl with | [_, _, _], _ => rfl) (fun f cdv A outer s H E gd hr tk po => ?_)
  exact svs_cons (sv_asg (ev_var 0) (gv_tup rfl (gvs_cons (gv_name (i := 4) sc_ask_stand.nd) (gvs_cons (gv_name (i := 5) sc_ask_stand.nd) (gvs_cons (gv_name (i := 6) sc_ask_stand.nd) gvs_nil)))))
    (svs_cons (sv_expr (ev_of (eo_fn g_ask gd hr tk (ex_v (ev_chain op_le opd_B op_lt opd_B ev_int (ev_var 4) (ev_var 1)) (ex_v ev_str ex_nil)))))
    (svs_cons (sv_expr (ev_of (eo_fn g_ask_fraction gd hr tk (ex_v (ev_var 5) (ex_v ev_bl ex_nil)))))
    (svs_cons (sv_set (i := 3) (eo_of (ev_neg ev_int)) sc_ask_stand.nd)
    (svs_cons (sv_for po rfl (iv_list (ev_var 6)) (gv_tup rfl (gvs_cons (gv_name (i := 7) sc_ask_stand.nd) (gvs_cons (gv_name (i := 8) sc_ask_stand.nd) gvs_nil))) (svs_cons (sv_expr (ev_of (eo_fn g_ask gd hr tk (ex_v (ev_chain op_lt opd_B op_lt opd_B (ev_var 3) (ev_var 7) (ev_var 2)) (ex_v ev_str ex_nil)))))
    (svs_cons (sv_expr (ev_of (eo_fn g_ask_fraction gd hr tk (ex_v (ev_var 8) (ex_v ev_bl ex_nil)))))
    (svs_cons (sv_set (i := 3) (eo_of (ev_var 7)) sc_ask_stand.nd)
    (svs_kill (is := [7, 8]) svs_nil)))))
    (svs_cons (sv_expr (ev_of (eo_fn g_ask gd hr tk (ex_v (ev_not (ev_of (eo_fn g_is_less gd hr tk (ex_v (ev_const T.c_ONE) (ex_v (ev_of (eo_fn g_total gd hr tk (ex_v (ev_of (eo_lc (own := [("to", 7), ("share", 8)]) rfl sc_ask_stand.nd (iv_list (ev_var 6)) (blkOk_by (own := [("to", 7), ("share", 8)]) (N := N_ask_stand) (sc := (defScope s_ask_stand)) (by decide +kernel)) (fun _ _ _ _ _ => gv_tup rfl (gvs_cons (gv_name (i := 7) sc_ask_stand.nd) (gvs_cons (gv_name (i := 8) sc_ask_stand.nd) gvs_nil))) (fun _ _ _ _ _ => ets_nil) (fun _ _ _ _ _ => ev_var 8))) ex_nil))) ex_nil))))) (ex_v ev_str ex_nil)))))
    svs_nil)))))
abbrev N_ask_rates : List Str := ["lines", "rates", "one", "rooms", "line"]
theorem sc_ask_rates : FnScope N_ask_rates ["lines", "rates"] (defScope s_ask_rates) := ⟨rfl, rfl, rfl, by decide +kernel, rfl, by decide +kernel, by decide +kernel⟩
theorem ok_ask_rates (T : Txt K mg) : Ok P w K mg base "ask_rates" 35 2 none Net.fn_ask_rates := by
  have g_ask_fraction := ok_ask_fraction (P := P) (w := w) (base := base) T
  have g_ask := ok_ask (P := P) (w := w) (base := base) T
  refine ok_mk (N := N_ask_rates) (ps := ["lines", "rates"]) (fb := Net.fb_ask_rates) T.f_ask_rates sc_ask_rates (by decide) (fun _ _ _ _ _ _ us hl => match us, hl with | [_, _], _ => rfl) (fun f cdv A outer s H E gd hr tk po => ?_)
  exact svs_cons (sv_for po rfl (iv_list (ev_var 1)) (gv_name (i := 2) sc_ask_rates.nd) (svs_cons (sv_expr (ev_of (eo_fn g_ask_fraction gd hr tk (ex_v (ev_var 2) (ex_v ev_bl ex_nil)))))
    (svs_kill (is := [2]) svs_nil)))
    (svs_cons (sv_expr (ev_of (eo_fn g_ask gd hr tk (ex_v (ev_ne hr.units (ev_of (eo_lc (own := [("one", 2)]) rfl sc_ask_rates.nd (iv_list (ev_var 1)) (blkOk_by (own := [("one", 2)]) (N := N_ask_rates) (sc := (defScope s_ask_rates)) (by decide +kernel)) (fun _ _ _ _ _ => gv_name (i := 2) sc_ask_rates.nd) (fun _ _ _ _ _ => ets_one (et_ne hr.units (ev_var 2) (ev_const T.c_NOUGHT))) (fun _ _ _ _ _ => ev_var 2))) (ev_of (eo_lst ea_nil))) (ex_v ev_str ex_nil)))))
    (svs_cons (sv_setLc (i := 3) (own := [("line", 4)]) rfl sc_ask_rates.nd (iv_list (ev_var 0)) (blkOk_by (own := [("line", 4)]) (N := N_ask_rates) (sc := (defScope s_ask_rates)) (by decide +kernel)) (fun _ _ _ _ _ => gv_name (i := 4) sc_ask_rates.nd) (fun _ _ _ _ _ => ets_nil) (fun _ _ _ _ _ => ev_item (ev_var 4) ev_int) (sw_true rfl rfl rfl (by decide +kernel)))
    (svs_frz (i := 3) (svs_cons (sv_if (et_eq hr.units (ev_maxL rfl T.b_max (ea_cons (ev_var 3) ea_nil)) ev_int) (svs_cons (sv_expr (ev_of (eo_fn g_ask gd hr tk (ex_v (ev_eq hr.units (ev_of (eo_lc (own := [("line", 4)]) rfl sc_ask_rates.nd (iv_list (ev_var 0)) (blkOk_by (own := [("line", 4)]) (N := N_ask_rates) (sc := (defScope s_ask_rates)) (by decide +kernel)) (fun _ _ _ _ _ => gv_name (i := 4) sc_ask_rates.nd) (fun _ _ _ _ _ => ets_one (et_ne hr.units (ev_item (ev_var 4) ev_int) (ev_const T.c_NOUGHT))) (fun _ _ _ _ _ => ev_var 4))) (ev_of (eo_lst ea_nil))) (ex_v ev_str ex_nil)))))
    svs_nil) (svs_cons (sv_expr (ev_of (eo_fn g_ask gd hr tk (ex_v (ev_gt (ev_minL rfl T.b_min (ea_cons (ev_var 3) ea_nil)) ev_int) (ex_v ev_str ex_nil)))))
    svs_nil))
    svs_nil))))
abbrev N_ask_counts : List Str := ["lines", "stands", "counts", "stand", "number", "line", "many", "count", "to", "share"]
theorem sc_ask_counts : FnScope N_ask_counts ["lines", "stands", "counts"] (defScope s_ask_counts) := ⟨rfl, rfl, rfl, by decide +kernel, rfl, by decide +kernel, by decide +kernel⟩
theorem ok_ask_counts (T : Txt K mg) : Ok P w K mg base "ask_counts" 37 3 none Net.fn_ask_counts := by
  have g_ask := ok_ask (P := P) (w := w) (base := base) T
  have g_total := ok_total (P := P) (w := w) (base := base) T
  refine ok_mk (N := N_ask_counts) (ps := ["lines", "stands", "counts"]) (fb := Net.fb_ask_counts) T.f_ask_counts sc_ask_counts (by decide) (fun _ _ _ _ _ _ us hl => match us, hl with | [_, _, _], _ => rfl) (fun f cdv A outer s H E gd hr tk po => ?_)
  exact svs_cons (sv_expr (ev_of (eo_fn g_ask gd hr tk (ex_v (ev_and (ev_ge (ev_minL rfl T.b_min (ea_cons (ev_var 2) ea_nil)) ev_int) (ev_one (ev_chain op_le opd_B op_le opd_B ev_int (ev_sum rfl T.b_sum (ea_cons (ev_var 2) ea_nil)) (ev_const T.c_MOST_COMERS)))) (ex_v ev_str ex_nil)))))
    (svs_cons (sv_expr (ev_of (eo_fn g_ask gd hr tk (ex_v (ev_eq hr.units (ev_of (eo_lc (own := [("line", 5)]) rfl sc_ask_counts.nd (iv_list (ev_var 0)) (blkOk_by (own := [("line", 5)]) (N := N_ask_counts) (sc := (defScope s_ask_counts)) (by decide +kernel)) (fun _ _ _ _ _ => gv_name (i := 5) sc_ask_counts.nd) (fun _ _ _ _ _ => ets_one (et_eq hr.units (ev_item (ev_var 5) ev_int) ev_str)) (fun _ _ _ _ _ => ev_var 5))) (ev_of (eo_lst ea_nil))) (ex_v ev_str ex_nil)))))
    (svs_cons (sv_for po rfl (iv_list (ev_var 1)) (gv_name (i := 3) sc_ask_counts.nd) (svs_cons (sv_expr (ev_of (eo_fn g_ask gd hr tk (ex_v (ev_eq hr.units (ev_of (eo_fn g_total gd hr tk (ex_v (ev_of (eo_lc (own := [("to", 8), ("share", 9)]) rfl sc_ask_counts.nd (iv_list (ev_item (ev_var 3) ev_int)) (blkOk_by (own := [("to", 8), ("share", 9)]) (N := N_ask_counts) (sc := (defScope s_ask_counts)) (by decide +kernel)) (fun _ _ _ _ _ => gv_tup rfl (gvs_cons (gv_name (i := 8) sc_ask_counts.nd) (gvs_cons (gv_name (i := 9) sc_ask_counts.nd) gvs_nil))) (fun _ _ _ _ _ => ets_nil) (fun _ _ _ _ _ => ev_var 9))) ex_nil))) (ev_const T.c_ONE)) (ex_v ev_str ex_nil)))))
    (svs_kill (is := [3]) svs_nil)))
    (svs_cons (sv_for po rfl (iv_enum T.b_enumerate (ea_cons (ev_var 0) ea_nil)) (gv_tup rfl (gvs_cons (gv_name (i := 4) sc_ask_counts.nd) (gvs_cons (gv_name (i := 5) sc_ask_counts.nd) gvs_nil))) (svs_cons (sv_set (i := 6) (eo_of (ev_sum rfl T.b_sum (ea_cons (ev_of (eo_lc (own := [("count", 7), ("stand", 3)]) rfl sc_ask_counts.nd (iv_zip T.b_zip (ea_cons (ev_var 2) (ea_cons (ev_var 1) ea_nil))) (blkOk_by (own := [("count", 7), ("stand", 3)]) (N := N_ask_counts) (sc := (defScope s_ask_counts)) (by decide +kernel)) (fun _ _ _ _ _ => gv_tup rfl (gvs_cons (gv_name (i := 7) sc_ask_counts.nd) (gvs_cons (gv_name (i := 3) sc_ask_counts.nd) gvs_nil))) (fun _ _ _ _ _ => ets_one (et_eq hr.units (ev_item (ev_var 3) ev_int) (ev_var 4))) (fun _ _ _ _ _ => ev_var 7))) ea_nil))) sc_ask_counts.nd)
    (svs_cons (sv_expr (ev_of (eo_fn g_ask gd hr tk (ex_v (ev_or (ev_eq hr.units (ev_item (ev_var 5) ev_int) ev_int) (ev_one (ev_le (ev_var 6) (ev_item (ev_var 5) ev_int)))) (ex_v ev_str ex_nil)))))
    (svs_kill (is := [4, 5, 6]) svs_nil))))
    svs_nil)))
abbrev N_ask_net : List Str := ["lines", "stands", "comers", "line", "stand", "used", "kind", "numbers"]
theorem sc_ask_net : FnScope N_ask_net ["lines", "stands", "comers"] (defScope s_ask_net) := ⟨rfl, rfl, rfl, by decide +kernel, rfl, by decide +kernel, by decide +kernel⟩
theorem ok_ask_net (T : Txt K mg) : Ok P w K mg base "ask_net" 38 3 none Net.fn_ask_net := by
  have g_ask := ok_ask (P := P) (w := w) (base := base) T
  have g_ask_line := ok_ask_line (P := P) (w := w) (base := base) T
  have g_ask_stand := ok_ask_stand (P := P) (w := w) (base := base) T
  have g_ask_rates := ok_ask_rates (P := P) (w := w) (base := base) T
  have g_ask_counts := ok_ask_counts (P := P) (w := w) (base := base) T
  refine ok_mk (N := N_ask_net) (ps := ["lines", "stands", "comers"]) (fb := Net.fb_ask_net) T.f_ask_net sc_ask_net (by decide) (fun _ _ _ _ _ _ us hl => match us, hl with | [_, _, _], _ => rfl) (fun f cdv A outer s H E gd hr tk po => ?_)
  exact svs_cons (sv_expr (ev_of (eo_fn g_ask gd hr tk (ex_v (ev_and (ev_chain op_le opd_B op_le opd_B ev_int (ev_len T.b_len (ea_cons (ev_var 0) ea_nil)) (ev_const T.c_MOST_LINES)) (ev_one (ev_chain op_le opd_B op_le opd_B ev_int (ev_len T.b_len (ea_cons (ev_var 1) ea_nil)) (ev_const T.c_MOST_STANDS)))) (ex_v ev_str ex_nil)))))
    (svs_cons (sv_for po rfl (iv_list (ev_var 0)) (gv_name (i := 3) sc_ask_net.nd) (svs_cons (sv_expr (ev_of (eo_fn g_ask_line gd hr tk (ex_v (ev_var 3) ex_nil))))
    (svs_kill (is := [3]) svs_nil)))
    (svs_cons (sv_for po rfl (iv_list (ev_var 1)) (gv_name (i := 4) sc_ask_net.nd) (svs_cons (sv_expr (ev_of (eo_fn g_ask_stand gd hr tk (ex_v (ev_var 4) (ex_v (ev_len T.b_len (ea_cons (ev_var 0) ea_nil)) (ex_v (ev_len T.b_len (ea_cons (ev_var 1) ea_nil)) ex_nil))))))
    (svs_kill (is := [4]) svs_nil)))
    (svs_cons (sv_set (i := 5) (eo_lc (own := [("stand", 4)]) rfl sc_ask_net.nd (iv_list (ev_var 1)) (blkOk_by (own := [("stand", 4)]) (N := N_ask_net) (sc := (defScope s_ask_net)) (by decide +kernel)) (fun _ _ _ _ _ => gv_name (i := 4) sc_ask_net.nd) (fun _ _ _ _ _ => ets_nil) (fun _ _ _ _ _ => ev_item (ev_var 4) ev_int)) sc_ask_net.nd)
    (svs_frz (i := 5) (svs_cons (sv_expr (ev_of (eo_fn g_ask gd hr tk (ex_v (ev_eq hr.units (ev_of (eo_lc (own := [("line", 3)]) rfl sc_ask_net.nd (iv_range1 rfl T.b_range (ea_cons (ev_len T.b_len (ea_cons (ev_var 0) ea_nil)) ea_nil)) (blkOk_by (own := [("line", 3)]) (N := N_ask_net) (sc := (defScope s_ask_net)) (by decide +kernel)) (fun _ _ _ _ _ => gv_name (i := 3) sc_ask_net.nd) (fun _ _ _ _ _ => ets_one (et_notin (ev_var 3) (ev_var 5))) (fun _ _ _ _ _ => ev_var 3))) (ev_of (eo_lst ea_nil))) (ex_v ev_str ex_nil)))))
    (svs_cons (sv_asg (ev_var 2) (gv_tup rfl (gvs_cons (gv_name (i := 6) sc_ask_net.nd) (gvs_cons (gv_name (i := 7) sc_ask_net.nd) gvs_nil))))
    (svs_cons (sv_expr (ev_of (eo_fn g_ask gd hr tk (ex_v (ev_and (ev_in (ev_var 6) (ev_tup (ea_cons (ev_const T.c_OPEN) (ea_cons (ev_const T.c_SHUT) ea_nil)))) (ev_one (ev_eq hr.units (ev_len T.b_len (ea_cons (ev_var 7) ea_nil)) (ev_len T.b_len (ea_cons (ev_var 1) ea_nil))))) (ex_v ev_str ex_nil)))))
    (svs_cons (sv_if (et_eq hr.units (ev_var 6) (ev_const T.c_OPEN)) (svs_cons (sv_expr (ev_of (eo_fn g_ask_rates gd hr tk (ex_v (ev_var 0) (ex_v (ev_var 7) ex_nil)))))
    svs_nil) (svs_cons (sv_expr (ev_of (eo_fn g_ask_counts gd hr tk (ex_v (ev_var 0) (ex_v (ev_var 1) (ex_v (ev_var 7) ex_nil))))))
    svs_nil))
    svs_nil))))))))
abbrev N_made_net : List Str := ["lines", "stands", "comers", "made", "speeds", "more", "room", "rule", "line", "rate", "goes"]
theorem sc_made_net : FnScope N_made_net ["lines", "stands", "comers"] (defScope s_made_net) := ⟨rfl, rfl, rfl, by decide +kernel, rfl, by decide +kernel, by decide +kernel⟩
theorem ok_made_net (T : Txt K mg) : Ok P w K mg base "made_net" 39 3 none Net.fn_made_net := by
  have g_ask_net := ok_ask_net (P := P) (w := w) (base := base) T
  refine ok_mk (N := N_made_net) (ps := ["lines", "stands", "comers"]) (fb := Net.fb_made_net) T.f_made_net sc_made_net (by decide) (fun _ _ _ _ _ _ us hl => match us, hl with | [_, _, _], _ => rfl) (fun f cdv A outer s H E gd hr tk po => ?_)
  exact svs_cons (sv_expr (ev_of (eo_fn g_ask_net gd hr tk (ex_v (ev_var 0) (ex_v (ev_var 1) (ex_v (ev_var 2) ex_nil))))))
    (svs_cons (sv_setLc (i := 3) (own := [("speeds", 4), ("more", 5), ("room", 6), ("rule", 7)]) rfl sc_made_net.nd (iv_list (ev_var 0)) (blkOk_by (own := [("speeds", 4), ("more", 5), ("room", 6), ("rule", 7)]) (N := N_made_net) (sc := (defScope s_made_net)) (by decide +kernel)) (fun _ _ _ _ _ => gv_tup rfl (gvs_cons (gv_name (i := 4) sc_made_net.nd) (gvs_cons (gv_name (i := 5) sc_made_net.nd) (gvs_cons (gv_name (i := 6) sc_made_net.nd) (gvs_cons (gv_name (i := 7) sc_made_net.nd) gvs_nil))))) (fun _ _ _ _ _ => ets_nil) (fun _ _ _ _ _ => ev_tup (ea_cons (ev_of (eo_listOf T.b_list (ea_cons (ev_var 4) ea_nil))) (ea_cons (ev_var 5) (ea_cons (ev_var 6) (ea_cons (ev_var 7) ea_nil))))) (sw_true rfl rfl rfl (by decide +kernel)))
    (svs_frz (i := 3) (svs_one (sv_ret (eo_of (ev_tup (ea_cons (ev_var 3) (ea_cons (ev_of (eo_lc (own := [("line", 8), ("rate", 9), ("goes", 10)]) rfl sc_made_net.nd (iv_list (ev_var 1)) (blkOk_by (own := [("line", 8), ("rate", 9), ("goes", 10)]) (N := N_made_net) (sc := (defScope s_made_net)) (by decide +kernel)) (fun _ _ _ _ _ => gv_tup rfl (gvs_cons (gv_name (i := 8) sc_made_net.nd) (gvs_cons (gv_name (i := 9) sc_made_net.nd) (gvs_cons (gv_name (i := 10) sc_made_net.nd) gvs_nil)))) (fun _ _ _ _ _ => ets_nil) (fun _ _ _ _ _ => ev_tup (ea_cons (ev_var 8) (ea_cons (ev_var 9) (ea_cons (ev_of (eo_listOf T.b_list (ea_cons (ev_var 10) ea_nil))) ea_nil)))))) (ea_cons (ev_tup (ea_cons (ev_item (ev_var 2) ev_int) (ea_cons (ev_of (eo_listOf T.b_list (ea_cons (ev_item (ev_var 2) ev_int) ea_nil))) ea_nil))) ea_nil)))))))))
abbrev N_fraction_text : List Str := ["one", "above", "below"]
theorem sc_fraction_text : FnScope N_fraction_text ["one"] (defScope s_fraction_text) := ⟨rfl, rfl, rfl, by decide +kernel, rfl, by decide +kernel, by decide +kernel⟩
theorem ok_fraction_text (T : Txt K mg) : Ok P w K mg base "fraction_text" 33 1 none Tex.fn_fraction_text := by
  refine ok_mk (N := N_fraction_text) (ps := ["one"]) (fb := Tex.fb_fraction_text) T.f_fraction_text sc_fraction_text (by decide) (fun _ _ _ _ _ _ us hl => match us, hl with | [_], _ => rfl) (fun f cdv A outer s H E gd hr tk po => ?_)
  exact svs_cons (sv_asg (ev_var 0) (gv_tup rfl (gvs_cons (gv_name (i := 1) sc_fraction_text.nd) (gvs_cons (gv_name (i := 2) sc_fraction_text.nd) gvs_nil))))
    (svs_cons (sv_if (et_eq hr.units (ev_var 2) ev_int) (svs_one (sv_ret (eo_of (ev_str1 T.b_str (ea_cons (ev_var 1) ea_nil))))) svs_nil)
    (svs_one (sv_ret (eo_of (ev_j3 (ev_fmt (ev_var 1)) ev_str (ev_fmt (ev_var 2)))))))
abbrev N_line_row : List Str := ["line", "words", "speeds", "more", "room", "rule", "one"]
theorem sc_line_row : FnScope N_line_row ["line"] (defScope s_line_row) := ⟨rfl, rfl, rfl, by decide +kernel, rfl, by decide +kernel, by decide +kernel⟩
theorem ok_line_row (T : Txt K mg) : Ok P w K mg base "line_row" 34 1 none Tex.fn_line_row := by
  have g_fraction_text := ok_fraction_text (P := P) (w := w) (base := base) T
  refine ok_mk (N := N_line_row) (ps := ["line"]) (fb := Tex.fb_line_row) T.f_line_row sc_line_row (by decide) (fun _ _ _ _ _ _ us hl => match us, hl with | [_], _ => rfl) (fun f cdv A outer s H E gd hr tk po => ?_)
  exact svs_cons (sv_asg (ev_var 0) (gv_tup rfl (gvs_cons (gv_name (i := 2) sc_line_row.nd) (gvs_cons (gv_name (i := 3) sc_line_row.nd) (gvs_cons (gv_name (i := 4) sc_line_row.nd) (gvs_cons (gv_name (i := 5) sc_line_row.nd) gvs_nil))))))
    (svs_cons (sv_set (i := 1) (eo_of (ev_add (ev_of (eo_lst (ea_cons ev_str (ea_cons ev_str ea_nil)))) (ev_of (eo_lc (own := [("one", 6)]) rfl sc_line_row.nd (iv_list (ev_var 2)) (blkOk_by (own := [("one", 6)]) (N := N_line_row) (sc := (defScope s_line_row)) (by decide +kernel)) (fun _ _ _ _ _ => gv_name (i := 6) sc_line_row.nd) (fun _ _ _ _ _ => ets_nil) (fun _ _ _ _ _ => ev_of (eo_fn g_fraction_text gd hr takes0 (ex_v (ev_var 6) ex_nil))))))) sc_line_row.nd)
    (svs_cons (sv_if (et_ne hr.units (ev_var 3) (ev_const T.c_NOUGHT)) (svs_cons (sv_set (i := 1) (eo_of (ev_add (ev_var 1) (ev_of (eo_lst (ea_cons ev_str (ea_cons (ev_of (eo_fn g_fraction_text gd hr tk (ex_v (ev_var 3) ex_nil))) ea_nil)))))) sc_line_row.nd)
    svs_nil) svs_nil)
    (svs_cons (sv_if (et_gt (ev_var 4) ev_int) (svs_cons (sv_set (i := 1) (eo_of (ev_add (ev_var 1) (ev_of (eo_lst (ea_cons ev_str (ea_cons (ev_str1 T.b_str (ea_cons (ev_var 4) ea_nil)) (ea_cons (ev_var 5) ea_nil))))))) sc_line_row.nd)
    svs_nil) svs_nil)
    (svs_one (sv_ret (eo_of (ev_join ev_str (ev_var 1))))))))
abbrev N_comer_words : List Str := ["kind", "number"]
theorem sc_comer_words : FnScope N_comer_words ["kind", "number"] (defScope s_comer_words) := ⟨rfl, rfl, rfl, by decide +kernel, rfl, by decide +kernel, by decide +kernel⟩
theorem ok_comer_words (T : Txt K mg) : Ok P w K mg base "comer_words" 34 2 none Tex.fn_comer_words := by
  have g_fraction_text := ok_fraction_text (P := P) (w := w) (base := base) T
  refine ok_mk (N := N_comer_words) (ps := ["kind", "number"]) (fb := Tex.fb_comer_words) T.f_comer_words sc_comer_words (by decide) (fun _ _ _ _ _ _ us hl => match us, hl with | [_, _], _ => rfl) (fun f cdv A outer s H E gd hr tk po => ?_)
  exact svs_cons (sv_if (et_w (ew_and (et_eq hr.units (ev_var 0) (ev_const T.c_OPEN)) (ew_and1 (et_ne hr.units (ev_var 1) (ev_const T.c_NOUGHT))))) (svs_one (sv_ret (eo_lst (ea_cons ev_str (ea_cons (ev_of (eo_fn g_fraction_text gd hr tk (ex_v (ev_var 1) ex_nil))) ea_nil))))) svs_nil)
    (svs_cons (sv_if (et_w (ew_and (et_eq hr.units (ev_var 0) (ev_const T.c_SHUT)) (ew_and1 (et_gt (ev_var 1) ev_int)))) (svs_one (sv_ret (eo_lst (ea_cons ev_str (ea_cons (ev_str1 T.b_str (ea_cons (ev_var 1) ea_nil)) ea_nil))))) svs_nil)
    (svs_one (sv_ret (eo_lst ea_nil))))
abbrev N_stand_row : List Str := ["stand", "kind", "number", "words", "line", "rate", "goes", "to", "share"]
theorem sc_stand_row : FnScope N_stand_row ["stand", "kind", "number"] (defScope s_stand_row) := ⟨rfl, rfl, rfl, by decide +kernel, rfl, by decide +kernel, by decide +kernel⟩
theorem ok_stand_row (T : Txt K mg) : Ok P w K mg base "stand_row" 35 3 none Tex.fn_stand_row := by
  have g_fraction_text := ok_fraction_text (P := P) (w := w) (base := base) T
  have g_comer_words := ok_comer_words (P := P) (w := w) (base := base) T
  refine ok_mk (N := N_stand_row) (ps := ["stand", "kind", "number"]) (fb := Tex.fb_stand_row) T.f_stand_row sc_stand_row (by decide) (fun _ _ _ _ _ _ us hl => match us, hl with | [_, _, _], _ => rfl) (fun f cdv A outer s H E gd hr tk po => ?_)
  exact svs_cons (sv_asg (ev_var 0) (gv_tup rfl (gvs_cons (gv_name (i := 4) sc_stand_row.nd) (gvs_cons (gv_name (i := 5) sc_stand_row.nd) (gvs_cons (gv_name (i := 6) sc_stand_row.nd) gvs_nil)))))
    (svs_cons (sv_set (i := 3) (eo_of (ev_add (ev_of (eo_lst (ea_cons ev_str (ea_cons (ev_str1 T.b_str (ea_cons (ev_var 4) ea_nil)) (ea_cons ev_str (ea_cons (ev_of (eo_fn g_fraction_text gd hr tk (ex_v (ev_var 5) ex_nil))) ea_nil)))))) (ev_of (eo_fn g_comer_words gd hr tk (ex_v (ev_var 1) (ex_v (ev_var 2) ex_nil)))))) sc_stand_row.nd)
    (svs_cons (sv_for po rfl (iv_list (ev_var 6)) (gv_tup rfl (gvs_cons (gv_name (i := 7) sc_stand_row.nd) (gvs_cons (gv_name (i := 8) sc_stand_row.nd) gvs_nil))) (svs_cons (sv_set (i := 3) (eo_of (ev_add (ev_var 3) (ev_of (eo_lst (ea_cons ev_str (ea_cons (ev_str1 T.b_str (ea_cons (ev_var 7) ea_nil)) (ea_cons (ev_of (eo_fn g_fraction_text gd hr tk (ex_v (ev_var 8) ex_nil))) ea_nil))))))) sc_stand_row.nd)
    (svs_kill (is := [7, 8]) svs_nil)))
    (svs_one (sv_ret (eo_of (ev_join ev_str (ev_var 3)))))))
abbrev N_net_rows : List Str := ["net", "rows", "lines", "stands", "kind", "numbers", "line", "stand", "number"]
theorem sc_net_rows : FnScope N_net_rows ["net"] (defScope s_net_rows) := ⟨rfl, rfl, rfl, by decide +kernel, rfl, by decide +kernel, by decide +kernel⟩
theorem ok_net_rows (T : Txt K mg) : Ok P w K mg base "net_rows" 36 1 none Tex.fn_net_rows := by
  have g_line_row := ok_line_row (P := P) (w := w) (base := base) T
  have g_stand_row := ok_stand_row (P := P) (w := w) (base := base) T
  refine ok_mk (N := N_net_rows) (ps := ["net"]) (fb := Tex.fb_net_rows) T.f_net_rows sc_net_rows (by decide) (fun _ _ _ _ _ _ us hl => match us, hl with | [_], _ => rfl) (fun f cdv A outer s H E gd hr tk po => ?_)
  exact svs_cons (sv_asg (ev_var 0) (gv_tup rfl (gvs_cons (gv_name (i := 2) sc_net_rows.nd) (gvs_cons (gv_name (i := 3) sc_net_rows.nd) (gvs_cons (gv_tup rfl (gvs_cons (gv_name (i := 4) sc_net_rows.nd) (gvs_cons (gv_name (i := 5) sc_net_rows.nd) gvs_nil))) gvs_nil)))))
    (svs_cons (sv_set (i := 1) (eo_of (ev_add (ev_of (eo_lst (ea_cons (ev_var 4) ea_nil))) (ev_of (eo_lc (own := [("line", 6)]) rfl sc_net_rows.nd (iv_list (ev_var 2)) (blkOk_by (own := [("line", 6)]) (N := N_net_rows) (sc := (defScope s_net_rows)) (by decide +kernel)) (fun _ _ _ _ _ => gv_name (i := 6) sc_net_rows.nd) (fun _ _ _ _ _ => ets_nil) (fun _ _ _ _ _ => ev_of (eo_fn g_line_row gd hr takes0 (ex_v (ev_var 6) ex_nil))))))) sc_net_rows.nd)
    (svs_one (sv_ret (eo_of (ev_add (ev_var 1) (ev_of (eo_lc (own := [("stand", 7), ("number", 8)]) rfl sc_net_rows.nd (iv_zip T.b_zip (ea_cons (ev_var 3) (ea_cons (ev_var 5) ea_nil))) (blkOk_by (own := [("stand", 7), ("number", 8)]) (N := N_net_rows) (sc := (defScope s_net_rows)) (by decide +kernel)) (fun _ _ _ _ _ => gv_tup rfl (gvs_cons (gv_name (i := 7) sc_net_rows.nd) (gvs_cons (gv_name (i := 8) sc_net_rows.nd) gvs_nil))) (fun _ _ _ _ _ => ets_nil) (fun _ _ _ _ _ => ev_of (eo_fn g_stand_row gd hr takes0 (ex_v (ev_var 7) (ex_v (ev_var 4) (ex_v (ev_var 8) ex_nil))))))))))))
abbrev N_net_text : List Str := ["net", "row"]
theorem sc_net_text : FnScope N_net_text ["net"] (defScope s_net_text) := ⟨rfl, rfl, rfl, by decide +kernel, rfl, by decide +kernel, by decide +kernel⟩
theorem ok_net_text (T : Txt K mg) : Ok P w K mg base "net_text" 37 1 none Tex.fn_net_text := by
  have g_net_rows := ok_net_rows (P := P) (w := w) (base := base) T
  refine ok_mk (N := N_net_text) (ps := ["net"]) (fb := Tex.fb_net_text) T.f_net_text sc_net_text (by decide) (fun _ _ _ _ _ _ us hl => match us, hl with | [_], _ => rfl) (fun f cdv A outer s H E gd hr tk po => ?_)
  exact svs_one (sv_ret (eo_of (ev_join ev_str (ev_of (eo_lc (own := [("row", 1)]) rfl sc_net_text.nd (iv_list (ev_of (eo_fn g_net_rows gd hr tk (ex_v (ev_var 0) ex_nil)))) (blkOk_by (own := [("row", 1)]) (N := N_net_text) (sc := (defScope s_net_text)) (by decide +kernel)) (fun _ _ _ _ _ => gv_name (i := 1) sc_net_text.nd) (fun _ _ _ _ _ => ets_nil) (fun _ _ _ _ _ => ev_add (ev_var 1) ev_str))))))
theorem sc__law_stream : FnScope ["_law_script", "_law_k", "_law_cell", "_law_mixed"] ["_law_script", "_law_k"] (defScope s__law_stream) := ⟨rfl, rfl, rfl, by decide +kernel, rfl, by decide +kernel, by decide +kernel⟩
theorem ok__law_stream {P : Program} {w : World} {K : PySem.W.Frag} {mg : Str → Option Value} {base : Heap} (T : Txt K mg) : Ok P w K mg base "_law_stream" 33 2 none Std.fn__law_stream := by
  refine ok_mk (N := ["_law_script", "_law_k", "_law_cell", "_law_mixed"]) (ps := ["_law_script", "_law_k"]) (fb := Std.fb__law_stream) T.f__law_stream sc__law_stream (by decide) (fun _ _ _ _ _ _ us hl => match us, hl with | [_, _], _ => rfl) (fun f cdv A outer s H E gd hr tk po => ?_)
  exact svs_cons (sv_if (et_lt (ev_var 1) (ev_len T.b_len (ea_cons (ev_var 0) ea_nil))) (svs_cons (sv_set (i := 2) (eo_of (ev_item (ev_var 0) (ev_var 1))) sc__law_stream.nd)
    (svs_cons (sv_set (i := 3) (eo_of (ev_add (ev_add (ev_mod (ev_var 2) ev_int) (ev_mul (ev_var 1) (ev_var 1))) ev_int)) sc__law_stream.nd)
    (svs_cons (sv_if (et_lt (ev_var 2) (ev_pow ev_int ev_int)) (svs_one (sv_set (i := 2) (eo_of ev_int) sc__law_stream.nd)) svs_nil)
    (svs_one (sv_ret (eo_lst (ea_cons (ev_var 2) (ea_cons (ev_var 3) ea_nil)))))))) svs_nil)
    (svs_one (sv_ret (eo_lst (ea_cons ev_int (ea_cons (ev_add (ev_mul (ev_var 1) (ev_var 1)) ev_int) ea_nil)))))
theorem sc__law_take : FnScope ["_law_stream_here", "_law_most", "_law_digit"] ["_law_stream_here", "_law_most"] (defScope s__law_take) := ⟨rfl, rfl, rfl, by decide +kernel, rfl, by decide +kernel, by decide +kernel⟩
theorem ok__law_take {P : Program} {w : World} {K : PySem.W.Frag} {mg : Str → Option Value} {base : Heap} (T : Txt K mg) : Ok P w K mg base "_law_take" 33 2 (some 0) Std.fn__law_take := by
  refine ok_mk (N := ["_law_stream_here", "_law_most", "_law_digit"]) (ps := ["_law_stream_here", "_law_most"]) (fb := Std.fb__law_take) T.f__law_take sc__law_take (by decide) (fun _ _ _ _ _ _ us hl => match us, hl with | [_, _], _ => rfl) (fun f cdv A outer s H E gd hr tk po => ?_)
  exact svs_cons (sv_if (et_eq hr.units (ev_peek (i := 0) ev_int) ev_int) (svs_cons (sv_putAt (i := 0) (ev_mod (ev_add (ev_mul (ev_peek (i := 0) ev_int) ev_int) ev_int) ev_int) ev_int)
    (svs_one (sv_ret (eo_of (ev_mod (ev_mod (ev_mul (ev_peek (i := 0) ev_int) (ev_peek (i := 0) ev_int)) ev_int) (ev_var 1)))))) svs_nil)
    (svs_cons (sv_set (i := 2) (eo_of (ev_mod (ev_peek (i := 0) ev_int) (ev_var 1))) sc__law_take.nd)
    (svs_cons (sv_putAt (i := 0) (ev_fdiv gd hr (by decide) (ev_peek (i := 0) ev_int) (ev_var 1)) ev_int)
    (svs_one (sv_ret (eo_move 2)))))
theorem sc__law_fraction : FnScope ["_law_above", "_law_below", "_law_one", "_law_other"] ["_law_above", "_law_below"] (defScope s__law_fraction) := ⟨rfl, rfl, rfl, by decide +kernel, rfl, by decide +kernel, by decide +kernel⟩
theorem ok__law_fraction {P : Program} {w : World} {K : PySem.W.Frag} {mg : Str → Option Value} {base : Heap} (T : Txt K mg) : Ok P w K mg base "_law_fraction" 33 2 none Std.fn__law_fraction := by
  refine ok_mk (N := ["_law_above", "_law_below", "_law_one", "_law_other"]) (ps := ["_law_above", "_law_below"]) (fb := Std.fb__law_fraction) T.f__law_fraction sc__law_fraction (by decide) (fun _ _ _ _ _ _ us hl => match us, hl with | [_, _], _ => rfl) (fun f cdv A outer s H E gd hr tk po => ?_)
  exact svs_cons (sv_set (i := 2) (eo_of (ev_abs T.b_abs (ea_cons (ev_var 0) ea_nil))) sc__law_fraction.nd)
    (svs_cons (sv_set (i := 3) (eo_of (ev_var 1)) sc__law_fraction.nd)
    (svs_cons (sv_while po (et_gt (ev_var 3) ev_int) (svs_one (sv_par (i := 2) (j := 3) rfl sc__law_fraction.nd (ea_cons (ev_var 3) (ea_cons (ev_mod (ev_var 2) (ev_var 3)) ea_nil)))))
    (svs_one (sv_ret (eo_of (ev_tup (ea_cons (ev_fdiv gd hr (by decide) (ev_var 0) (ev_var 2)) (ea_cons (ev_fdiv gd hr (by decide) (ev_var 1) (ev_var 2)) ea_nil))))))))
abbrev N__law_some : List Str := ["_law_stream_here", "_law_most"]
theorem sc__law_some : FnScope N__law_some ["_law_stream_here", "_law_most"] (defScope s__law_some) := ⟨rfl, rfl, rfl, by decide +kernel, rfl, by decide +kernel, by decide +kernel⟩
theorem ok__law_some (T : Txt K mg) : Ok P w K mg base "_law_some" 34 2 (some 0) fn__law_some := by
  have g__law_fraction := ok__law_fraction (P := P) (w := w) (base := base) T
  have g__law_take := ok__law_take (P := P) (w := w) (base := base) T
  refine ok_mk (N := N__law_some) (ps := ["_law_stream_here", "_law_most"]) (fb := fb__law_some) T.f__law_some sc__law_some (by decide) (fun _ _ _ _ _ _ us hl => match us, hl with | [_, _], _ => rfl) (fun f cdv A outer s H E gd hr tk po => ?_)
  exact svs_one (sv_ret (eo_fn g__law_fraction gd hr tk (ex_v (ev_add ev_int (ev_of (eo_fn g__law_take gd hr tk (ex_s 0 (ex_v (ev_var 1) ex_nil))))) (ex_v (ev_add ev_int (ev_of (eo_fn g__law_take gd hr tk (ex_s 0 (ex_v (ev_var 1) ex_nil))))) ex_nil))))
abbrev N__law_line : List Str := ["_law_stream_here", "_law_kind", "_law_most", "_law_below", "_law_row", "_law_speeds", "_law_more", "_law_rules", "_law_one", "_law_k"]
theorem sc__law_line : FnScope N__law_line ["_law_stream_here", "_law_kind", "_law_most"] (defScope s__law_line) := ⟨rfl, rfl, rfl, by decide +kernel, rfl, by decide +kernel, by decide +kernel⟩
theorem ok__law_line (T : Txt K mg) : Ok P w K mg base "_law_line" 35 3 (some 0) fn__law_line := by
  have g__law_take := ok__law_take (P := P) (w := w) (base := base) T
  have g__law_fraction := ok__law_fraction (P := P) (w := w) (base := base) T
  have g__law_some := ok__law_some (P := P) (w := w) (base := base) T
  refine ok_mk (N := N__law_line) (ps := ["_law_stream_here", "_law_kind", "_law_most"]) (fb := fb__law_line) T.f__law_line sc__law_line (by decide) (fun _ _ _ _ _ _ us hl => match us, hl with | [_, _, _], _ => rfl) (fun f cdv A outer s H E gd hr tk po => ?_)
  exact svs_cons (sv_set (i := 3) (eo_of (ev_add ev_int (ev_of (eo_fn g__law_take gd hr tk (ex_s 0 (ex_v (ev_var 2) ex_nil)))))) sc__law_line.nd)
    (svs_cons (sv_set (i := 4) (eo_sortI T.b_sorted (ea_cons (ev_of (eo_lc (own := [("_law_k", 9)]) rfl sc__law_line.nd (iv_range1 rfl T.b_range (ea_cons (ev_add ev_int (ev_of (eo_fn g__law_take gd hr tk (ex_s 0 (ex_v ev_int ex_nil))))) ea_nil)) (blkOk_by (own := [("_law_k", 9)]) (N := N__law_line) (sc := (defScope s__law_line)) (by decide +kernel)) (fun _ _ _ _ _ => gv_name (i := 9) sc__law_line.nd) (fun _ _ _ _ _ => ets_nil) (fun _ _ _ _ _ => ev_add ev_int (ev_of (eo_fn g__law_take gd hr takes0 (ex_s 0 (ex_v (ev_var 2) ex_nil))))))) ea_nil)) sc__law_line.nd)
    (svs_frz (i := 4) (svs_cons (sv_setLc (i := 5) (own := [("_law_one", 8)]) rfl sc__law_line.nd (iv_list (ev_var 4)) (blkOk_by (own := [("_law_one", 8)]) (N := N__law_line) (sc := (defScope s__law_line)) (by decide +kernel)) (fun _ _ _ _ _ => gv_name (i := 8) sc__law_line.nd) (fun _ _ _ _ _ => ets_nil) (fun _ _ _ _ _ => ev_of (eo_fn g__law_fraction gd hr takes0 (ex_v (ev_var 8) (ex_v (ev_var 3) ex_nil)))) (sw_true rfl rfl rfl (by decide +kernel)))
    (svs_cons (sv_set (i := 6) (eo_of (ev_tup (ea_cons ev_int (ea_cons ev_int ea_nil)))) sc__law_line.nd)
    (svs_cons (sv_if (et_w (ew_and (et_ne hr.units (ev_var 1) ev_str) (ew_and1 (et_eq hr.units (ev_of (eo_fn g__law_take gd hr tk (ex_s 0 (ex_v ev_int ex_nil)))) ev_int)))) (svs_cons (sv_set (i := 6) (eo_fn g__law_some gd hr tk (ex_s 0 (ex_v (ev_var 2) ex_nil))) sc__law_line.nd)
    svs_nil) svs_nil)
    (svs_frz (i := 5) (svs_cons (sv_if (et_w (ew_or (et_eq hr.units (ev_var 1) ev_str) (ew_or1 (et_w (ew_and (et_eq hr.units (ev_var 1) ev_str) (ew_and1 (et_eq hr.units (ev_of (eo_fn g__law_take gd hr tk (ex_s 0 (ex_v ev_int ex_nil)))) ev_int))))))) (svs_one (sv_ret (eo_of (ev_tup (ea_cons (ev_var 5) (ea_cons (ev_var 6) (ea_cons ev_int (ea_cons ev_str ea_nil)))))))) svs_nil)
    (svs_cons (sv_set (i := 7) (eo_lst (ea_cons ev_str (ea_cons ev_str (ea_cons ev_str ea_nil)))) sc__law_line.nd)
    (svs_cons (sv_if (et_eq hr.units (ev_var 1) ev_str) (svs_cons (sv_set (i := 7) (eo_lst (ea_cons ev_str (ea_cons ev_str ea_nil))) sc__law_line.nd)
    svs_nil) svs_nil)
    (svs_frz (i := 7) (svs_one (sv_ret (eo_of (ev_tup (ea_cons (ev_var 5) (ea_cons (ev_var 6) (ea_cons (ev_add ev_int (ev_of (eo_fn g__law_take gd hr tk (ex_s 0 (ex_v ev_int ex_nil))))) (ea_cons (ev_item (ev_var 7) (ev_of (eo_fn g__law_take gd hr tk (ex_s 0 (ex_v (ev_len T.b_len (ea_cons (ev_var 7) ea_nil)) ex_nil))))) ea_nil))))))))))))))))))
abbrev N__law_goes : List Str := ["_law_stream_here", "_law_stands", "_law_full", "_law_some_here", "_law_parts", "_law_below", "_law_to", "_law_bit"]
theorem sc__law_goes : FnScope N__law_goes ["_law_stream_here", "_law_stands", "_law_full"] (defScope s__law_goes) := ⟨rfl, rfl, rfl, by decide +kernel, rfl, by decide +kernel, by decide +kernel⟩
theorem ok__law_goes (T : Txt K mg) : Ok P w K mg base "_law_goes" 34 3 (some 0) fn__law_goes := by
  have g__law_take := ok__law_take (P := P) (w := w) (base := base) T
  have g__law_fraction := ok__law_fraction (P := P) (w := w) (base := base) T
  refine ok_mk (N := N__law_goes) (ps := ["_law_stream_here", "_law_stands", "_law_full"]) (fb := fb__law_goes) T.f__law_goes sc__law_goes (by decide) (fun _ _ _ _ _ _ us hl => match us, hl with | [_, _, _], _ => rfl) (fun f cdv A outer s H E gd hr tk po => ?_)
  exact svs_cons (sv_setLc (i := 3) (own := [("_law_to", 6)]) rfl sc__law_goes.nd (iv_range1 rfl T.b_range (ea_cons (ev_var 1) ea_nil)) (blkOk_by (own := [("_law_to", 6)]) (N := N__law_goes) (sc := (defScope s__law_goes)) (by decide +kernel)) (fun _ _ _ _ _ => gv_name (i := 6) sc__law_goes.nd) (fun _ _ _ _ _ => ets_one (et_eq hr.units (ev_of (eo_fn g__law_take gd hr takes0 (ex_s 0 (ex_v ev_int ex_nil)))) ev_int)) (fun _ _ _ _ _ => ev_var 6) (sw_true rfl rfl rfl (by decide +kernel)))
    (svs_frz (i := 3) (svs_cons (sv_if (et_w (ew_and (et_eq hr.units (ev_var 3) (ev_of (eo_lst ea_nil))) (ew_and1 (et_val (ev_var 2))))) (svs_cons (sv_set (i := 3) (eo_lst (ea_cons (ev_of (eo_fn g__law_take gd hr tk (ex_s 0 (ex_v (ev_var 1) ex_nil)))) ea_nil)) sc__law_goes.nd)
    (svs_frz (i := 3) svs_nil)) svs_nil)
    (svs_cons (sv_setLc (i := 4) (own := [("_law_to", 6)]) rfl sc__law_goes.nd (iv_list (ev_var 3)) (blkOk_by (own := [("_law_to", 6)]) (N := N__law_goes) (sc := (defScope s__law_goes)) (by decide +kernel)) (fun _ _ _ _ _ => gv_name (i := 6) sc__law_goes.nd) (fun _ _ _ _ _ => ets_nil) (fun _ _ _ _ _ => ev_add ev_int (ev_of (eo_fn g__law_take gd hr takes0 (ex_s 0 (ex_v ev_int ex_nil))))) (sw_true rfl rfl rfl (by decide +kernel)))
    (svs_frz (i := 4) (svs_cons (sv_set (i := 5) (eo_of (ev_sum rfl T.b_sum (ea_cons (ev_var 4) ea_nil))) sc__law_goes.nd)
    (svs_cons (sv_if (et_not (et_val (ev_var 2))) (svs_cons (sv_set (i := 5) (eo_of (ev_add (ev_var 5) (ev_of (eo_fn g__law_take gd hr tk (ex_s 0 (ex_v ev_int ex_nil)))))) sc__law_goes.nd)
    svs_nil) svs_nil)
    (svs_one (sv_ret (eo_lc (own := [("_law_to", 6), ("_law_bit", 7)]) rfl sc__law_goes.nd (iv_zip T.b_zip (ea_cons (ev_var 3) (ea_cons (ev_var 4) ea_nil))) (blkOk_by (own := [("_law_to", 6), ("_law_bit", 7)]) (N := N__law_goes) (sc := (defScope s__law_goes)) (by decide +kernel)) (fun _ _ _ _ _ => gv_tup rfl (gvs_cons (gv_name (i := 6) sc__law_goes.nd) (gvs_cons (gv_name (i := 7) sc__law_goes.nd) gvs_nil))) (fun _ _ _ _ _ => ets_nil) (fun _ _ _ _ _ => ev_tup (ea_cons (ev_var 6) (ea_cons (ev_of (eo_fn g__law_fraction gd hr takes0 (ex_v (ev_var 7) (ex_v (ev_var 5) ex_nil)))) ea_nil))))))))))))
abbrev N__law_comers : List Str := ["_law_stream_here", "_law_kind", "_law_stands", "_law_most", "_law_rates", "_law_k", "_law_counts", "_law_at"]
theorem sc__law_comers : FnScope N__law_comers ["_law_stream_here", "_law_kind", "_law_stands", "_law_most"] (defScope s__law_comers) := ⟨rfl, rfl, rfl, by decide +kernel, rfl, by decide +kernel, by decide +kernel⟩
theorem ok__law_comers (T : Txt K mg) : Ok P w K mg base "_law_comers" 35 4 (some 0) fn__law_comers := by
  have g__law_take := ok__law_take (P := P) (w := w) (base := base) T
  have g__law_some := ok__law_some (P := P) (w := w) (base := base) T
  refine ok_mk (N := N__law_comers) (ps := ["_law_stream_here", "_law_kind", "_law_stands", "_law_most"]) (fb := fb__law_comers) T.f__law_comers sc__law_comers (by decide) (fun _ _ _ _ _ _ us hl => match us, hl with | [_, _, _, _], _ => rfl) (fun f cdv A outer s H E gd hr tk po => ?_)
  exact svs_cons (sv_if (et_eq hr.units (ev_var 1) ev_str) (svs_cons (sv_set (i := 6) (eo_rep (ev_of (eo_lst (ea_cons ev_int ea_nil))) (ev_var 2)) sc__law_comers.nd)
    (svs_cons (sv_for po rfl (iv_range1 rfl T.b_range (ea_cons (ev_add ev_int (ev_of (eo_fn g__law_take gd hr tk (ex_s 0 (ex_v ev_int ex_nil))))) ea_nil)) (gv_name (i := 5) sc__law_comers.nd) (svs_cons (sv_set (i := 7) (eo_fn g__law_take gd hr tk (ex_s 0 (ex_v (ev_var 2) ex_nil))) sc__law_comers.nd)
    (svs_cons (sv_putAt (i := 6) (ev_add (ev_peek (i := 6) (ev_var 7)) ev_int) (ev_var 7))
    (svs_kill (is := [5, 7]) svs_nil))))
    (svs_frz (i := 6) (svs_one (sv_ret (eo_of (ev_tup (ea_cons ev_str (ea_cons (ev_var 6) ea_nil))))))))) svs_nil)
    (svs_cons (sv_set (i := 4) (eo_rep (ev_of (eo_lst (ea_cons (ev_tup (ea_cons ev_int (ea_cons ev_int ea_nil))) ea_nil))) (ev_var 2)) sc__law_comers.nd)
    (svs_cons (sv_for po rfl (iv_range1 rfl T.b_range (ea_cons (ev_add ev_int (ev_of (eo_fn g__law_take gd hr tk (ex_s 0 (ex_v (ev_var 2) ex_nil))))) ea_nil)) (gv_name (i := 5) sc__law_comers.nd) (svs_cons (sv_putAt (i := 4) (ev_of (eo_fn g__law_some gd hr tk (ex_s 0 (ex_v (ev_var 3) ex_nil)))) (ev_of (eo_fn g__law_take gd hr tk (ex_s 0 (ex_v (ev_var 2) ex_nil)))))
    (svs_kill (is := [5]) svs_nil)))
    (svs_frz (i := 4) (svs_one (sv_ret (eo_of (ev_tup (ea_cons ev_str (ea_cons (ev_var 4) ea_nil)))))))))
abbrev N__law_any : List Str := ["_law_stream_here", "_law_most", "_law_kind", "_law_lines", "_law_stands", "_law_row", "_law_made", "_law_k", "_law_line_here"]
theorem sc__law_any : FnScope N__law_any ["_law_stream_here", "_law_most"] (defScope s__law_any) := ⟨rfl, rfl, rfl, by decide +kernel, rfl, by decide +kernel, by decide +kernel⟩
theorem ok__law_any (T : Txt K mg) : Ok P w K mg base "_law_any" 36 2 (some 0) fn__law_any := by
  have g__law_take := ok__law_take (P := P) (w := w) (base := base) T
  have g__law_line := ok__law_line (P := P) (w := w) (base := base) T
  have g__law_some := ok__law_some (P := P) (w := w) (base := base) T
  have g__law_goes := ok__law_goes (P := P) (w := w) (base := base) T
  have g__law_comers := ok__law_comers (P := P) (w := w) (base := base) T
  refine ok_mk (N := N__law_any) (ps := ["_law_stream_here", "_law_most"]) (fb := fb__law_any) T.f__law_any sc__law_any (by decide) (fun _ _ _ _ _ _ us hl => match us, hl with | [_, _], _ => rfl) (fun f cdv A outer s H E gd hr tk po => ?_)
  exact svs_cons (sv_set (i := 2) (eo_of (ev_item (ev_of (eo_lst (ea_cons ev_str (ea_cons ev_str (ea_cons ev_str ea_nil))))) (ev_of (eo_fn g__law_take gd hr tk (ex_s 0 (ex_v ev_int ex_nil)))))) sc__law_any.nd)
    (svs_cons (sv_set (i := 3) (eo_of (ev_add ev_int (ev_of (eo_fn g__law_take gd hr tk (ex_s 0 (ex_v ev_int ex_nil)))))) sc__law_any.nd)
    (svs_cons (sv_set (i := 4) (eo_of (ev_add (ev_var 3) (ev_of (eo_fn g__law_take gd hr tk (ex_s 0 (ex_v (ev_sub ev_int (ev_var 3)) ex_nil)))))) sc__law_any.nd)
    (svs_cons (sv_setLc (i := 5) (own := [("_law_k", 7)]) rfl sc__law_any.nd (iv_range1 rfl T.b_range (ea_cons (ev_var 3) ea_nil)) (blkOk_by (own := [("_law_k", 7)]) (N := N__law_any) (sc := (defScope s__law_any)) (by decide +kernel)) (fun _ _ _ _ _ => gv_name (i := 7) sc__law_any.nd) (fun _ _ _ _ _ => ets_nil) (fun _ _ _ _ _ => ev_of (eo_fn g__law_line gd hr takes0 (ex_s 0 (ex_v (ev_var 2) (ex_v (ev_var 1) ex_nil))))) (sw_true rfl rfl rfl (by decide +kernel)))
    (svs_cons (sv_set (i := 6) (eo_lst ea_nil) sc__law_any.nd)
    (svs_cons (sv_for po rfl (iv_range1 rfl T.b_range (ea_cons (ev_var 4) ea_nil)) (gv_name (i := 7) sc__law_any.nd) (svs_cons (sv_set (i := 8) (eo_of (ev_var 7)) sc__law_any.nd)
    (svs_cons (sv_if (et_ge (ev_var 7) (ev_var 3)) (svs_cons (sv_set (i := 8) (eo_fn g__law_take gd hr tk (ex_s 0 (ex_v (ev_var 3) ex_nil))) sc__law_any.nd)
    svs_nil) svs_nil)
    (svs_cons (sv_app (i := 6) (ev_tup (ea_cons (ev_var 8) (ea_cons (ev_of (eo_fn g__law_some gd hr tk (ex_s 0 (ex_v (ev_var 1) ex_nil)))) (ea_cons (ev_of (eo_fn g__law_goes gd hr tk (ex_s 0 (ex_v (ev_var 4) (ex_v (ev_eq hr.units (ev_var 2) ev_str) ex_nil))))) ea_nil)))))
    (svs_kill (is := [7, 8]) svs_nil)))))
    (svs_frz (i := 5) (svs_frz (i := 6) (svs_one (sv_ret (eo_of (ev_tup (ea_cons (ev_var 5) (ea_cons (ev_var 6) (ea_cons (ev_of (eo_fn g__law_comers gd hr tk (ex_s 0 (ex_v (ev_var 2) (ex_v (ev_var 4) (ex_v (ev_var 1) ex_nil)))))) ea_nil))))))))))))))
abbrev N__law_number : List Str := ["_law_one"]
theorem sc__law_number : FnScope N__law_number ["_law_one"] (defScope s__law_number) := ⟨rfl, rfl, rfl, by decide +kernel, rfl, by decide +kernel, by decide +kernel⟩
theorem ok__law_number (T : Txt K mg) : Ok P w K mg base "_law_number" 33 1 none fn__law_number := by
  refine ok_mk (N := N__law_number) (ps := ["_law_one"]) (fb := fb__law_number) T.f__law_number sc__law_number (by decide) (fun _ _ _ _ _ _ us hl => match us, hl with | [_], _ => rfl) (fun f cdv A outer s H E gd hr tk po => ?_)
  exact svs_cons (sv_if (et_eq hr.units (ev_item (ev_var 0) ev_int) ev_int) (svs_one (sv_ret (eo_of (ev_str1 T.b_str (ea_cons (ev_item (ev_var 0) ev_int) ea_nil))))) svs_nil)
    (svs_one (sv_ret (eo_of (ev_add (ev_add (ev_str1 T.b_str (ea_cons (ev_item (ev_var 0) ev_int) ea_nil)) ev_str) (ev_str1 T.b_str (ea_cons (ev_item (ev_var 0) ev_int) ea_nil))))))
abbrev N__law_line_row : List Str := ["_law_line_here", "_law_row", "_law_one"]
theorem sc__law_line_row : FnScope N__law_line_row ["_law_line_here"] (defScope s__law_line_row) := ⟨rfl, rfl, rfl, by decide +kernel, rfl, by decide +kernel, by decide +kernel⟩
theorem ok__law_line_row (T : Txt K mg) : Ok P w K mg base "_law_line_row" 34 1 none fn__law_line_row := by
  have g__law_number := ok__law_number (P := P) (w := w) (base := base) T
  refine ok_mk (N := N__law_line_row) (ps := ["_law_line_here"]) (fb := fb__law_line_row) T.f__law_line_row sc__law_line_row (by decide) (fun _ _ _ _ _ _ us hl => match us, hl with | [_], _ => rfl) (fun f cdv A outer s H E gd hr tk po => ?_)
  exact svs_cons (sv_set (i := 1) (eo_of ev_str) sc__law_line_row.nd)
    (svs_cons (sv_for po rfl (iv_list (ev_item (ev_var 0) ev_int)) (gv_name (i := 2) sc__law_line_row.nd) (svs_cons (sv_set (i := 1) (eo_of (ev_add (ev_add (ev_var 1) ev_str) (ev_of (eo_fn g__law_number gd hr tk (ex_v (ev_var 2) ex_nil))))) sc__law_line_row.nd)
    (svs_kill (is := [2]) svs_nil)))
    (svs_cons (sv_if (et_ne hr.units (ev_item (ev_var 0) ev_int) (ev_tup (ea_cons ev_int (ea_cons ev_int ea_nil)))) (svs_cons (sv_set (i := 1) (eo_of (ev_add (ev_add (ev_var 1) ev_str) (ev_of (eo_fn g__law_number gd hr tk (ex_v (ev_item (ev_var 0) ev_int) ex_nil))))) sc__law_line_row.nd)
    svs_nil) svs_nil)
    (svs_cons (sv_if (et_gt (ev_item (ev_var 0) ev_int) ev_int) (svs_cons (sv_set (i := 1) (eo_of (ev_add (ev_add (ev_add (ev_add (ev_var 1) ev_str) (ev_str1 T.b_str (ea_cons (ev_item (ev_var 0) ev_int) ea_nil))) ev_str) (ev_item (ev_var 0) ev_int))) sc__law_line_row.nd)
    svs_nil) svs_nil)
    (svs_one (sv_ret (eo_move 1))))))
abbrev N__law_stand_row : List Str := ["_law_stand", "_law_kind", "_law_number_here", "_law_row", "_law_to", "_law_share"]
theorem sc__law_stand_row : FnScope N__law_stand_row ["_law_stand", "_law_kind", "_law_number_here"] (defScope s__law_stand_row) := ⟨rfl, rfl, rfl, by decide +kernel, rfl, by decide +kernel, by decide +kernel⟩
theorem ok__law_stand_row (T : Txt K mg) : Ok P w K mg base "_law_stand_row" 34 3 none fn__law_stand_row := by
  have g__law_number := ok__law_number (P := P) (w := w) (base := base) T
  refine ok_mk (N := N__law_stand_row) (ps := ["_law_stand", "_law_kind", "_law_number_here"]) (fb := fb__law_stand_row) T.f__law_stand_row sc__law_stand_row (by decide) (fun _ _ _ _ _ _ us hl => match us, hl with | [_, _, _], _ => rfl) (fun f cdv A outer s H E gd hr tk po => ?_)
  exact svs_cons (sv_set (i := 3) (eo_of (ev_add (ev_add (ev_add ev_str (ev_str1 T.b_str (ea_cons (ev_item (ev_var 0) ev_int) ea_nil))) ev_str) (ev_of (eo_fn g__law_number gd hr tk (ex_v (ev_item (ev_var 0) ev_int) ex_nil))))) sc__law_stand_row.nd)
    (svs_cons (sv_if (et_w (ew_and (et_eq hr.units (ev_var 1) ev_str) (ew_and1 (et_ne hr.units (ev_var 2) (ev_tup (ea_cons ev_int (ea_cons ev_int ea_nil))))))) (svs_cons (sv_set (i := 3) (eo_of (ev_add (ev_add (ev_var 3) ev_str) (ev_of (eo_fn g__law_number gd hr tk (ex_v (ev_var 2) ex_nil))))) sc__law_stand_row.nd)
    svs_nil) svs_nil)
    (svs_cons (sv_if (et_w (ew_and (et_eq hr.units (ev_var 1) ev_str) (ew_and1 (et_gt (ev_var 2) ev_int)))) (svs_cons (sv_set (i := 3) (eo_of (ev_add (ev_add (ev_var 3) ev_str) (ev_str1 T.b_str (ea_cons (ev_var 2) ea_nil)))) sc__law_stand_row.nd)
    svs_nil) svs_nil)
    (svs_cons (sv_for po rfl (iv_list (ev_item (ev_var 0) ev_int)) (gv_tup rfl (gvs_cons (gv_name (i := 4) sc__law_stand_row.nd) (gvs_cons (gv_name (i := 5) sc__law_stand_row.nd) gvs_nil))) (svs_cons (sv_set (i := 3) (eo_of (ev_add (ev_add (ev_add (ev_add (ev_var 3) ev_str) (ev_str1 T.b_str (ea_cons (ev_var 4) ea_nil))) ev_str) (ev_of (eo_fn g__law_number gd hr tk (ex_v (ev_var 5) ex_nil))))) sc__law_stand_row.nd)
    (svs_kill (is := [4, 5]) svs_nil)))
    (svs_one (sv_ret (eo_move 3))))))
abbrev N__law_rows : List Str := ["_law_net", "_law_rows_here", "_law_stand", "_law_number_here", "_law_line_here"]
theorem sc__law_rows : FnScope N__law_rows ["_law_net"] (defScope s__law_rows) := ⟨rfl, rfl, rfl, by decide +kernel, rfl, by decide +kernel, by decide +kernel⟩
theorem ok__law_rows (T : Txt K mg) : Ok P w K mg base "_law_rows" 35 1 none fn__law_rows := by
  have g__law_line_row := ok__law_line_row (P := P) (w := w) (base := base) T
  have g__law_stand_row := ok__law_stand_row (P := P) (w := w) (base := base) T
  refine ok_mk (N := N__law_rows) (ps := ["_law_net"]) (fb := fb__law_rows) T.f__law_rows sc__law_rows (by decide) (fun _ _ _ _ _ _ us hl => match us, hl with | [_], _ => rfl) (fun f cdv A outer s H E gd hr tk po => ?_)
  exact svs_cons (sv_set (i := 1) (eo_cat (ev_of (eo_lst (ea_cons (ev_item (ev_item (ev_var 0) ev_int) ev_int) ea_nil))) (ev_of (eo_lc (own := [("_law_line_here", 4)]) rfl sc__law_rows.nd (iv_list (ev_item (ev_var 0) ev_int)) (blkOk_by (own := [("_law_line_here", 4)]) (N := N__law_rows) (sc := (defScope s__law_rows)) (by decide +kernel)) (fun _ _ _ _ _ => gv_name (i := 4) sc__law_rows.nd) (fun _ _ _ _ _ => ets_nil) (fun _ _ _ _ _ => ev_of (eo_fn g__law_line_row gd hr takes0 (ex_v (ev_var 4) ex_nil)))))) sc__law_rows.nd)
    (svs_cons (sv_for po rfl (iv_zip T.b_zip (ea_cons (ev_item (ev_var 0) ev_int) (ea_cons (ev_item (ev_item (ev_var 0) ev_int) ev_int) ea_nil))) (gv_tup rfl (gvs_cons (gv_name (i := 2) sc__law_rows.nd) (gvs_cons (gv_name (i := 3) sc__law_rows.nd) gvs_nil))) (svs_cons (sv_app (i := 1) (ev_of (eo_fn g__law_stand_row gd hr tk (ex_v (ev_var 2) (ex_v (ev_item (ev_item (ev_var 0) ev_int) ev_int) (ex_v (ev_var 3) ex_nil))))))
    (svs_kill (is := [2, 3]) svs_nil)))
    (svs_one (sv_ret (eo_move 1))))
abbrev N__law_text : List Str := ["_law_rows_here", "_law_found", "_law_row"]
theorem sc__law_text : FnScope N__law_text ["_law_rows_here"] (defScope s__law_text) := ⟨rfl, rfl, rfl, by decide +kernel, rfl, by decide +kernel, by decide +kernel⟩
theorem ok__law_text (T : Txt K mg) : Ok P w K mg base "_law_text" 33 1 none fn__law_text := by
  refine ok_mk (N := N__law_text) (ps := ["_law_rows_here"]) (fb := fb__law_text) T.f__law_text sc__law_text (by decide) (fun _ _ _ _ _ _ us hl => match us, hl with | [_], _ => rfl) (fun f cdv A outer s H E gd hr tk po => ?_)
  exact svs_cons (sv_set (i := 1) (eo_of ev_str) sc__law_text.nd)
    (svs_cons (sv_for po rfl (iv_list (ev_var 0)) (gv_name (i := 2) sc__law_text.nd) (svs_cons (sv_set (i := 1) (eo_of (ev_add (ev_add (ev_var 1) (ev_var 2)) ev_str)) sc__law_text.nd)
    (svs_kill (is := [2]) svs_nil)))
    (svs_one (sv_ret (eo_move 1))))
abbrev N__law_copy : List Str := ["_law_net", "_law_lines", "_law_stands", "_law_line_here", "_law_stand"]
theorem sc__law_copy : FnScope N__law_copy ["_law_net"] (defScope s__law_copy) := ⟨rfl, rfl, rfl, by decide +kernel, rfl, by decide +kernel, by decide +kernel⟩
theorem ok__law_copy (T : Txt K mg) : Ok P w K mg base "_law_copy" 33 1 none fn__law_copy := by
  refine ok_mk (N := N__law_copy) (ps := ["_law_net"]) (fb := fb__law_copy) T.f__law_copy sc__law_copy (by decide) (fun _ _ _ _ _ _ us hl => match us, hl with | [_], _ => rfl) (fun f cdv A outer s H E gd hr tk po => ?_)
  exact svs_cons (sv_setLc (i := 1) (own := [("_law_line_here", 3)]) rfl sc__law_copy.nd (iv_list (ev_item (ev_var 0) ev_int)) (blkOk_by (own := [("_law_line_here", 3)]) (N := N__law_copy) (sc := (defScope s__law_copy)) (by decide +kernel)) (fun _ _ _ _ _ => gv_name (i := 3) sc__law_copy.nd) (fun _ _ _ _ _ => ets_nil) (fun _ _ _ _ _ => ev_tup (ea_cons (ev_of (eo_listOf T.b_list (ea_cons (ev_item (ev_var 3) ev_int) ea_nil))) (ea_cons (ev_item (ev_var 3) ev_int) (ea_cons (ev_item (ev_var 3) ev_int) (ea_cons (ev_item (ev_var 3) ev_int) ea_nil))))) (sw_true rfl rfl rfl (by decide +kernel)))
    (svs_cons (sv_setLc (i := 2) (own := [("_law_stand", 4)]) rfl sc__law_copy.nd (iv_list (ev_item (ev_var 0) ev_int)) (blkOk_by (own := [("_law_stand", 4)]) (N := N__law_copy) (sc := (defScope s__law_copy)) (by decide +kernel)) (fun _ _ _ _ _ => gv_name (i := 4) sc__law_copy.nd) (fun _ _ _ _ _ => ets_nil) (fun _ _ _ _ _ => ev_tup (ea_cons (ev_item (ev_var 4) ev_int) (ea_cons (ev_item (ev_var 4) ev_int) (ea_cons (ev_of (eo_listOf T.b_list (ea_cons (ev_item (ev_var 4) ev_int) ea_nil))) ea_nil)))) (sw_true rfl rfl rfl (by decide +kernel)))
    (svs_frz (i := 1) (svs_frz (i := 2) (svs_one (sv_ret (eo_of (ev_tup (ea_cons (ev_var 1) (ea_cons (ev_var 2) (ea_cons (ev_tup (ea_cons (ev_item (ev_item (ev_var 0) ev_int) ev_int) (ea_cons (ev_of (eo_listOf T.b_list (ea_cons (ev_item (ev_item (ev_var 0) ev_int) ev_int) ea_nil))) ea_nil))) ea_nil))))))))))
abbrev N_law : List Str := ["_law_script", "_law_k", "_law_stream_here", "_law_net", "_law_found", "_law_kept", "_law_text_here"]
theorem sc_law : FnScope N_law ["_law_script"] (defScope s_law) := ⟨rfl, rfl, rfl, by decide +kernel, rfl, by decide +kernel, by decide +kernel⟩
theorem ok_law_at {f : Addr} {fd : FuncData} (T : Txt K mg) (F : Fun K "law" "law" s_law f fd) : FnG P w K mg base 40 f fd ["_law_script"] (spF K mg 1 none fn_law) := by
  have g__law_stream := ok__law_stream (P := P) (w := w) (base := base) T
  have g__law_any := ok__law_any (P := P) (w := w) (base := base) T
  have g__law_take := ok__law_take (P := P) (w := w) (base := base) T
  have g_made_net := ok_made_net (P := P) (w := w) (base := base) T
  have g__law_copy := ok__law_copy (P := P) (w := w) (base := base) T
  have g_net_text := ok_net_text (P := P) (w := w) (base := base) T
  have g__law_text := ok__law_text (P := P) (w := w) (base := base) T
  have g__law_rows := ok__law_rows (P := P) (w := w) (base := base) T
  refine ok_at (N := N_law) (ps := ["_law_script"]) (fb := fb_law) F sc_law (by decide) (fun f cdv A outer s H E gd hr tk po => ?_)
  exact svs_cons (sv_for po rfl (iv_range1 rfl T.b_range (ea_cons ev_int ea_nil)) (gv_name (i := 1) sc_law.nd) (svs_cons (sv_set (i := 2) (eo_fn g__law_stream gd hr tk (ex_v (ev_var 0) (ex_v (ev_var 1) ex_nil))) sc_law.nd)
    (svs_cons (sv_set (i := 3) (eo_fn g__law_any gd hr tk (ex_s 2 (ex_v (ev_item (ev_of (eo_lst (ea_cons ev_int (ea_cons ev_int ea_nil)))) (ev_of (eo_fn g__law_take gd hr tk (ex_s 2 (ex_v ev_int ex_nil))))) ex_nil))) sc_law.nd)
    (svs_cons (sv_set (i := 4) (eo_fn g_made_net gd hr tk (ex_v (ev_item (ev_var 3) ev_int) (ex_v (ev_item (ev_var 3) ev_int) (ex_v (ev_item (ev_var 3) ev_int) ex_nil)))) sc_law.nd)
    (svs_cons (sv_set (i := 5) (eo_fn g__law_copy gd hr tk (ex_v (ev_var 4) ex_nil)) sc_law.nd)
    (svs_cons (sv_set (i := 6) (eo_fn g_net_text gd hr tk (ex_v (ev_var 4) ex_nil)) sc_law.nd)
    (svs_cons (sv_if (et_w (ew_or (et_not (et_val (ev_isi (Tn := "str") T.b_isinstance T.b_str (ev_var 6) (by decide +kernel)))) (ew_or (et_ne hr.units (ev_var 6) (ev_of (eo_fn g__law_text gd hr tk (ex_v (ev_of (eo_fn g__law_rows gd hr tk (ex_v (ev_var 3) ex_nil))) ex_nil)))) (ew_or1 (et_ne hr.units (ev_var 4) (ev_var 5)))))) (svs_one (sv_ret (eo_of ev_bl))) svs_nil)
    (svs_kill (is := [1, 2, 3, 4, 5, 6]) svs_nil))))))))
    (svs_one (sv_ret (eo_of ev_bl)))
end Wk
end K06
namespace K06
open PySem PySem.Spec PyProof.Rows L2 Dt
namespace Wk
open PySem.W (nsIn fnOf codeIn keepIn)
theorem all_mk {l : PySem.W.OpenLaw} {w : World} {K : PySem.W.Frag} {h : Heap} {mg : Str → Option Value} {fa : Addr} (X : K.In h) (G : h.Ns mainGlobals mg) (hfa : mg "law" = some (.ref fa))
    {f0 f1 f2 f3 f4 f5 f6 f7 f8 f9 f10 f11 f12 f13 f14 f15 f16 f17 f18 f19 f20 f21 f22 f23 f24 f25 f26 f27 f28 f29 f30 f31 f32 f33 : Addr} {od0 an0 od1 an1 od2 an2 od3 an3 od4 an4 od5 an5 od6 an6 od7 an7 od8 an8 od9 an9 od10 an10 od11 an11 od12 an12 od13 an13 od14 an14 od15 an15 od16 an16 od17 an17 od18 an18 od19 an19 od20 an20 od21 an21 od22 an22 od23 an23 od24 an24 od25 an25 od26 an26 od27 an27 od28 an28 od29 an29 od30 an30 od31 an31 od32 an32 od33 an33 : Option Addr} {sl0 sl1 sl2 sl3 sl4 sl5 sl6 sl7 sl8 sl9 sl10 sl11 sl12 sl13 sl14 sl15 sl16 sl17 sl18 sl19 sl20 sl21 sl22 sl23 sl24 sl25 sl26 sl27 sl28 sl29 sl30 sl31 sl32 sl33 : Array (Option Value)} {oc0 kV0 dc0 pm0 cd0 ct0 oc1 kV1 dc1 pm1 cd1 ct1 oc2 kV2 dc2 pm2 cd2 ct2 oc3 kV3 dc3 pm3 cd3 ct3 oc4 kV4 dc4 pm4 cd4 ct4 oc5 kV5 dc5 pm5 cd5 ct5 oc6 kV6 dc6 pm6 cd6 ct6 oc7 kV7 dc7 pm7 cd7 ct7 oc8 kV8 dc8 pm8 cd8 ct8 oc9 kV9 dc9 pm9 cd9 ct9 oc10 kV10 dc10 pm10 cd10 ct10 oc11 kV11 dc11 pm11 cd11 ct11 oc12 kV12 dc12 pm12 cd12 ct12 oc13 kV13 dc13 pm13 cd13 ct13 oc14 kV14 dc14 pm14 cd14 ct14 oc15 kV15 dc15 pm15 cd15 ct15 oc16 kV16 dc16 pm16 cd16 ct16 oc17 kV17 dc17 pm17 cd17 ct17 oc18 kV18 dc18 pm18 cd18 ct18 oc19 kV19 dc19 pm19 cd19 ct19 oc20 kV20 dc20 pm20 cd20 ct20 oc21 kV21 dc21 pm21 cd21 ct21 oc22 kV22 dc22 pm22 cd22 ct22 oc23 kV23 dc23 pm23 cd23 ct23 oc24 kV24 dc24 pm24 cd24 ct24 oc25 kV25 dc25 pm25 cd25 ct25 oc26 kV26 dc26 pm26 cd26 ct26 oc27 kV27 dc27 pm27 cd27 ct27 oc28 kV28 dc28 pm28 cd28 ct28 oc29 kV29 dc29 pm29 cd29 ct29 oc30 kV30 dc30 pm30 cd30 ct30 oc31 kV31 dc31 pm31 cd31 ct31 oc32 kV32 dc32 pm32 cd32 ct32 oc33 kV33 dc33 pm33 cd33 ct33 : Value}
    (a0 : nsIn K mainGlobals "common" = some (some (.ref f0))) (l0 : K.lookup f0 = some ⟨oc0, od0, .func (fnOf "common" "common" (defArgs s_common) (defBody s_common) (defScope s_common) .none kV0 dc0 pm0 an0 cd0 ct0), sl0⟩) (c0 : codeIn K cd0 "common" = true) (k0 : keepIn K (.ref f0) = true)
    (a1 : nsIn K mainGlobals "fraction" = some (some (.ref f1))) (l1 : K.lookup f1 = some ⟨oc1, od1, .func (fnOf "fraction" "fraction" (defArgs s_fraction) (defBody s_fraction) (defScope s_fraction) .none kV1 dc1 pm1 an1 cd1 ct1), sl1⟩) (c1 : codeIn K cd1 "fraction" = true) (k1 : keepIn K (.ref f1) = true)
    (a2 : nsIn K mainGlobals "plus" = some (some (.ref f2))) (l2 : K.lookup f2 = some ⟨oc2, od2, .func (fnOf "plus" "plus" (defArgs s_plus) (defBody s_plus) (defScope s_plus) .none kV2 dc2 pm2 an2 cd2 ct2), sl2⟩) (c2 : codeIn K cd2 "plus" = true) (k2 : keepIn K (.ref f2) = true)
    (a3 : nsIn K mainGlobals "is_less" = some (some (.ref f3))) (l3 : K.lookup f3 = some ⟨oc3, od3, .func (fnOf "is_less" "is_less" (defArgs s_is_less) (defBody s_is_less) (defScope s_is_less) .none kV3 dc3 pm3 an3 cd3 ct3), sl3⟩) (c3 : codeIn K cd3 "is_less" = true) (k3 : keepIn K (.ref f3) = true)
    (a4 : nsIn K mainGlobals "total" = some (some (.ref f4))) (l4 : K.lookup f4 = some ⟨oc4, od4, .func (fnOf "total" "total" (defArgs s_total) (defBody s_total) (defScope s_total) .none kV4 dc4 pm4 an4 cd4 ct4), sl4⟩) (c4 : codeIn K cd4 "total" = true) (k4 : keepIn K (.ref f4) = true)
    (a5 : nsIn K mainGlobals "ask" = some (some (.ref f5))) (l5 : K.lookup f5 = some ⟨oc5, od5, .func (fnOf "ask" "ask" (defArgs s_ask) (defBody s_ask) (defScope s_ask) .none kV5 dc5 pm5 an5 cd5 ct5), sl5⟩) (c5 : codeIn K cd5 "ask" = true) (k5 : keepIn K (.ref f5) = true)
    (a6 : nsIn K mainGlobals "ask_fraction" = some (some (.ref f6))) (l6 : K.lookup f6 = some ⟨oc6, od6, .func (fnOf "ask_fraction" "ask_fraction" (defArgs s_ask_fraction) (defBody s_ask_fraction) (defScope s_ask_fraction) .none kV6 dc6 pm6 an6 cd6 ct6), sl6⟩) (c6 : codeIn K cd6 "ask_fraction" = true) (k6 : keepIn K (.ref f6) = true)
    (a7 : nsIn K mainGlobals "ask_line" = some (some (.ref f7))) (l7 : K.lookup f7 = some ⟨oc7, od7, .func (fnOf "ask_line" "ask_line" (defArgs s_ask_line) (defBody s_ask_line) (defScope s_ask_line) .none kV7 dc7 pm7 an7 cd7 ct7), sl7⟩) (c7 : codeIn K cd7 "ask_line" = true) (k7 : keepIn K (.ref f7) = true)
    (a8 : nsIn K mainGlobals "ask_stand" = some (some (.ref f8))) (l8 : K.lookup f8 = some ⟨oc8, od8, .func (fnOf "ask_stand" "ask_stand" (defArgs s_ask_stand) (defBody s_ask_stand) (defScope s_ask_stand) .none kV8 dc8 pm8 an8 cd8 ct8), sl8⟩) (c8 : codeIn K cd8 "ask_stand" = true) (k8 : keepIn K (.ref f8) = true)
    (a9 : nsIn K mainGlobals "ask_rates" = some (some (.ref f9))) (l9 : K.lookup f9 = some ⟨oc9, od9, .func (fnOf "ask_rates" "ask_rates" (defArgs s_ask_rates) (defBody s_ask_rates) (defScope s_ask_rates) .none kV9 dc9 pm9 an9 cd9 ct9), sl9⟩) (c9 : codeIn K cd9 "ask_rates" = true) (k9 : keepIn K (.ref f9) = true)
    (a10 : nsIn K mainGlobals "ask_counts" = some (some (.ref f10))) (l10 : K.lookup f10 = some ⟨oc10, od10, .func (fnOf "ask_counts" "ask_counts" (defArgs s_ask_counts) (defBody s_ask_counts) (defScope s_ask_counts) .none kV10 dc10 pm10 an10 cd10 ct10), sl10⟩) (c10 : codeIn K cd10 "ask_counts" = true) (k10 : keepIn K (.ref f10) = true)
    (a11 : nsIn K mainGlobals "ask_net" = some (some (.ref f11))) (l11 : K.lookup f11 = some ⟨oc11, od11, .func (fnOf "ask_net" "ask_net" (defArgs s_ask_net) (defBody s_ask_net) (defScope s_ask_net) .none kV11 dc11 pm11 an11 cd11 ct11), sl11⟩) (c11 : codeIn K cd11 "ask_net" = true) (k11 : keepIn K (.ref f11) = true)
    (a12 : nsIn K mainGlobals "made_net" = some (some (.ref f12))) (l12 : K.lookup f12 = some ⟨oc12, od12, .func (fnOf "made_net" "made_net" (defArgs s_made_net) (defBody s_made_net) (defScope s_made_net) .none kV12 dc12 pm12 an12 cd12 ct12), sl12⟩) (c12 : codeIn K cd12 "made_net" = true) (k12 : keepIn K (.ref f12) = true)
    (a13 : nsIn K mainGlobals "fraction_text" = some (some (.ref f13))) (l13 : K.lookup f13 = some ⟨oc13, od13, .func (fnOf "fraction_text" "fraction_text" (defArgs s_fraction_text) (defBody s_fraction_text) (defScope s_fraction_text) .none kV13 dc13 pm13 an13 cd13 ct13), sl13⟩) (c13 : codeIn K cd13 "fraction_text" = true) (k13 : keepIn K (.ref f13) = true)
    (a14 : nsIn K mainGlobals "line_row" = some (some (.ref f14))) (l14 : K.lookup f14 = some ⟨oc14, od14, .func (fnOf "line_row" "line_row" (defArgs s_line_row) (defBody s_line_row) (defScope s_line_row) .none kV14 dc14 pm14 an14 cd14 ct14), sl14⟩) (c14 : codeIn K cd14 "line_row" = true) (k14 : keepIn K (.ref f14) = true)
    (a15 : nsIn K mainGlobals "comer_words" = some (some (.ref f15))) (l15 : K.lookup f15 = some ⟨oc15, od15, .func (fnOf "comer_words" "comer_words" (defArgs s_comer_words) (defBody s_comer_words) (defScope s_comer_words) .none kV15 dc15 pm15 an15 cd15 ct15), sl15⟩) (c15 : codeIn K cd15 "comer_words" = true) (k15 : keepIn K (.ref f15) = true)
    (a16 : nsIn K mainGlobals "stand_row" = some (some (.ref f16))) (l16 : K.lookup f16 = some ⟨oc16, od16, .func (fnOf "stand_row" "stand_row" (defArgs s_stand_row) (defBody s_stand_row) (defScope s_stand_row) .none kV16 dc16 pm16 an16 cd16 ct16), sl16⟩) (c16 : codeIn K cd16 "stand_row" = true) (k16 : keepIn K (.ref f16) = true)
    (a17 : nsIn K mainGlobals "net_rows" = some (some (.ref f17))) (l17 : K.lookup f17 = some ⟨oc17, od17, .func (fnOf "net_rows" "net_rows" (defArgs s_net_rows) (defBody s_net_rows) (defScope s_net_rows) .none kV17 dc17 pm17 an17 cd17 ct17), sl17⟩) (c17 : codeIn K cd17 "net_rows" = true) (k17 : keepIn K (.ref f17) = true)
    (a18 : nsIn K mainGlobals "net_text" = some (some (.ref f18))) (l18 : K.lookup f18 = some ⟨oc18, od18, .func (fnOf "net_text" "net_text" (defArgs s_net_text) (defBody s_net_text) (defScope s_net_text) .none kV18 dc18 pm18 an18 cd18 ct18), sl18⟩) (c18 : codeIn K cd18 "net_text" = true) (k18 : keepIn K (.ref f18) = true)
    (a19 : nsIn K mainGlobals "_law_stream" = some (some (.ref f19))) (l19 : K.lookup f19 = some ⟨oc19, od19, .func (fnOf "_law_stream" "_law_stream" (defArgs s__law_stream) (defBody s__law_stream) (defScope s__law_stream) .none kV19 dc19 pm19 an19 cd19 ct19), sl19⟩) (c19 : codeIn K cd19 "_law_stream" = true) (k19 : keepIn K (.ref f19) = true)
    (a20 : nsIn K mainGlobals "_law_take" = some (some (.ref f20))) (l20 : K.lookup f20 = some ⟨oc20, od20, .func (fnOf "_law_take" "_law_take" (defArgs s__law_take) (defBody s__law_take) (defScope s__law_take) .none kV20 dc20 pm20 an20 cd20 ct20), sl20⟩) (c20 : codeIn K cd20 "_law_take" = true) (k20 : keepIn K (.ref f20) = true)
    (a21 : nsIn K mainGlobals "_law_fraction" = some (some (.ref f21))) (l21 : K.lookup f21 = some ⟨oc21, od21, .func (fnOf "_law_fraction" "_law_fraction" (defArgs s__law_fraction) (defBody s__law_fraction) (defScope s__law_fraction) .none kV21 dc21 pm21 an21 cd21 ct21), sl21⟩) (c21 : codeIn K cd21 "_law_fraction" = true) (k21 : keepIn K (.ref f21) = true)
    (a22 : nsIn K mainGlobals "_law_some" = some (some (.ref f22))) (l22 : K.lookup f22 = some ⟨oc22, od22, .func (fnOf "_law_some" "_law_some" (defArgs s__law_some) (defBody s__law_some) (defScope s__law_some) .none kV22 dc22 pm22 an22 cd22 ct22), sl22⟩) (c22 : codeIn K cd22 "_law_some" = true) (k22 : keepIn K (.ref f22) = true)
    (a23 : nsIn K mainGlobals "_law_line" = some (some (.ref f23))) (l23 : K.lookup f23 = some ⟨oc23, od23, .func (fnOf "_law_line" "_law_line" (defArgs s__law_line) (defBody s__law_line) (defScope s__law_line) .none kV23 dc23 pm23 an23 cd23 ct23), sl23⟩) (c23 : codeIn K cd23 "_law_line" = true) (k23 : keepIn K (.ref f23) = true)
    (a24 : nsIn K mainGlobals "_law_goes" = some (some (.ref f24))) (l24 : K.lookup f24 = some ⟨oc24, od24, .func (fnOf "_law_goes" "_law_goes" (defArgs s__law_goes) (defBody s__law_goes) (defScope s__law_goes) .none kV24 dc24 pm24 an24 cd24 ct24), sl24⟩) (c24 : codeIn K cd24 "_law_goes" = true) (k24 : keepIn K (.ref f24) = true)
    (a25 : nsIn K mainGlobals "_law_comers" = some (some (.ref f25))) (l25 : K.lookup f25 = some ⟨oc25, od25, .func (fnOf "_law_comers" "_law_comers" (defArgs s__law_comers) (defBody s__law_comers) (defScope s__law_comers) .none kV25 dc25 pm25 an25 cd25 ct25), sl25⟩) (c25 : codeIn K cd25 "_law_comers" = true) (k25 : keepIn K (.ref f25) = true)
    (a26 : nsIn K mainGlobals "_law_any" = some (some (.ref f26))) (l26 : K.lookup f26 = some ⟨oc26, od26, .func (fnOf "_law_any" "_law_any" (defArgs s__law_any) (defBody s__law_any) (defScope s__law_any) .none kV26 dc26 pm26 an26 cd26 ct26), sl26⟩) (c26 : codeIn K cd26 "_law_any" = true) (k26 : keepIn K (.ref f26) = true)
    (a27 : nsIn K mainGlobals "_law_number" = some (some (.ref f27))) (l27 : K.lookup f27 = some ⟨oc27, od27, .func (fnOf "_law_number" "_law_number" (defArgs s__law_number) (defBody s__law_number) (defScope s__law_number) .none kV27 dc27 pm27 an27 cd27 ct27), sl27⟩) (c27 : codeIn K cd27 "_law_number" = true) (k27 : keepIn K (.ref f27) = true)
    (a28 : nsIn K mainGlobals "_law_line_row" = some (some (.ref f28))) (l28 : K.lookup f28 = some ⟨oc28, od28, .func (fnOf "_law_line_row" "_law_line_row" (defArgs s__law_line_row) (defBody s__law_line_row) (defScope s__law_line_row) .none kV28 dc28 pm28 an28 cd28 ct28), sl28⟩) (c28 : codeIn K cd28 "_law_line_row" = true) (k28 : keepIn K (.ref f28) = true)
    (a29 : nsIn K mainGlobals "_law_stand_row" = some (some (.ref f29))) (l29 : K.lookup f29 = some ⟨oc29, od29, .func (fnOf "_law_stand_row" "_law_stand_row" (defArgs s__law_stand_row) (defBody s__law_stand_row) (defScope s__law_stand_row) .none kV29 dc29 pm29 an29 cd29 ct29), sl29⟩) (c29 : codeIn K cd29 "_law_stand_row" = true) (k29 : keepIn K (.ref f29) = true)
    (a30 : nsIn K mainGlobals "_law_rows" = some (some (.ref f30))) (l30 : K.lookup f30 = some ⟨oc30, od30, .func (fnOf "_law_rows" "_law_rows" (defArgs s__law_rows) (defBody s__law_rows) (defScope s__law_rows) .none kV30 dc30 pm30 an30 cd30 ct30), sl30⟩) (c30 : codeIn K cd30 "_law_rows" = true) (k30 : keepIn K (.ref f30) = true)
    (a31 : nsIn K mainGlobals "_law_text" = some (some (.ref f31))) (l31 : K.lookup f31 = some ⟨oc31, od31, .func (fnOf "_law_text" "_law_text" (defArgs s__law_text) (defBody s__law_text) (defScope s__law_text) .none kV31 dc31 pm31 an31 cd31 ct31), sl31⟩) (c31 : codeIn K cd31 "_law_text" = true) (k31 : keepIn K (.ref f31) = true)
    (a32 : nsIn K mainGlobals "_law_copy" = some (some (.ref f32))) (l32 : K.lookup f32 = some ⟨oc32, od32, .func (fnOf "_law_copy" "_law_copy" (defArgs s__law_copy) (defBody s__law_copy) (defScope s__law_copy) .none kV32 dc32 pm32 an32 cd32 ct32), sl32⟩) (c32 : codeIn K cd32 "_law_copy" = true) (k32 : keepIn K (.ref f32) = true)
    (a33 : nsIn K mainGlobals "law" = some (some (.ref f33))) (l33 : K.lookup f33 = some ⟨oc33, od33, .func (fnOf "law" "law" (defArgs s_law) (defBody s_law) (defScope s_law) .none kV33 dc33 pm33 an33 cd33 ct33), sl33⟩) (c33 : codeIn K cd33 "law" = true) (k33 : keepIn K (.ref f33) = true)
    (z0 : PySem.W.nsIn K mainGlobals "abs" = some none)
    (z1 : PySem.W.nsIn K mainGlobals "enumerate" = some none)
    (z2 : PySem.W.nsIn K mainGlobals "isinstance" = some none)
    (z3 : PySem.W.nsIn K mainGlobals "len" = some none)
    (z4 : PySem.W.nsIn K mainGlobals "list" = some none)
    (z5 : PySem.W.nsIn K mainGlobals "max" = some none)
    (z6 : PySem.W.nsIn K mainGlobals "min" = some none)
    (z7 : PySem.W.nsIn K mainGlobals "range" = some none)
    (z8 : PySem.W.nsIn K mainGlobals "sorted" = some none)
    (z9 : PySem.W.nsIn K mainGlobals "str" = some none)
    (z10 : PySem.W.nsIn K mainGlobals "sum" = some none)
    (z11 : PySem.W.nsIn K mainGlobals "zip" = some none)
    {C0 : Addr} (xa0 : PySem.W.nsIn K mainGlobals "NoFraction" = some (some (.ref C0))) (xe0 : PySem.W.excIn K C0 veTail "ValueError.__new__" = true) (xk0 : PySem.W.keepIn K (.ref C0) = true) (xb0 : PySem.W.subIn K (.ref C0) (.type "BaseException") = some true) (xt0 : PySem.W.typeIn K (.ref C0) = some (.type "type"))
    {C1 : Addr} (xa1 : PySem.W.nsIn K mainGlobals "NoNet" = some (some (.ref C1))) (xe1 : PySem.W.excIn K C1 veTail "ValueError.__new__" = true) (xk1 : PySem.W.keepIn K (.ref C1) = true) (xb1 : PySem.W.subIn K (.ref C1) (.type "BaseException") = some true) (xt1 : PySem.W.typeIn K (.ref C1) = some (.type "type"))
    {ct0 : Tok} (ca0 : PySem.W.nsIn K mainGlobals "MOST_COMERS" = some (some (.int (8) ct0)))
    {ct1 : Tok} (ca1 : PySem.W.nsIn K mainGlobals "MOST_LINES" = some (some (.int (8) ct1)))
    {ct2 : Tok} (ca2 : PySem.W.nsIn K mainGlobals "MOST_ROOM" = some (some (.int (9) ct2)))
    {ct3 : Tok} (ca3 : PySem.W.nsIn K mainGlobals "MOST_SPEEDS" = some (some (.int (6) ct3)))
    {ct4 : Tok} (ca4 : PySem.W.nsIn K mainGlobals "MOST_STANDS" = some (some (.int (12) ct4)))
    {cp5 : Addr} {co5 : Option Addr} {cn5 : Nat} {cs5 : Array (Option Value)} {ct5_0 : Tok} {ct5_1 : Tok} (ca5 : PySem.W.nsIn K mainGlobals "NOUGHT" = some (some (.ref cp5))) (cl5 : K.lookup cp5 = some ⟨.type "tuple", co5, .seq #[.int 0 ct5_0, .int 1 ct5_1] cn5, cs5⟩)
    {cp6 : Addr} {co6 : Option Addr} {cn6 : Nat} {cs6 : Array (Option Value)} {ct6_0 : Tok} {ct6_1 : Tok} (ca6 : PySem.W.nsIn K mainGlobals "ONE" = some (some (.ref cp6))) (cl6 : K.lookup cp6 = some ⟨.type "tuple", co6, .seq #[.int 1 ct6_0, .int 1 ct6_1] cn6, cs6⟩)
    {ct7 : Tok} (ca7 : PySem.W.nsIn K mainGlobals "OPEN" = some (some (.str "open" ct7)))
    {cp8 : Addr} {co8 : Option Addr} {cn8 : Nat} {cs8 : Array (Option Value)} {ct8_0 : Tok} {ct8_1 : Tok} {ct8_2 : Tok} (ca8 : PySem.W.nsIn K mainGlobals "RULES" = some (some (.ref cp8))) (cl8 : K.lookup cp8 = some ⟨.type "tuple", co8, .seq #[.str "stay" ct8_0, .str "lose" ct8_1, .str "skip" ct8_2] cn8, cs8⟩)
    {ct9 : Tok} (ca9 : PySem.W.nsIn K mainGlobals "SHUT" = some (some (.str "shut" ct9)))
    {ct10 : Tok} (ca10 : PySem.W.nsIn K mainGlobals "SIZE" = some (some (.int (1000) ct10)))
    : ∃ fd : FuncData, (∀ (s : Shared) (v : Value), BindsTo s fd ⟨[v], []⟩ [("_law_script", v)]) ∧ ∀ base : Heap, K.In base → base.Ns mainGlobals mg → FnG l.prog w K mg base 40 fa fd ["_law_script"] (spL K 63) := by
  have e := hfa.symm.trans (PySem.W.mg_of X G a33)
  cases e
  have T : Txt K mg := { f_common := ⟨_, _, fun_mk (st := s_common) l0 c0 k0, PySem.W.mg_of X G a0⟩, f_fraction := ⟨_, _, fun_mk (st := s_fraction) l1 c1 k1, PySem.W.mg_of X G a1⟩, f_plus := ⟨_, _, fun_mk (st := s_plus) l2 c2 k2, PySem.W.mg_of X G a2⟩, f_is_less := ⟨_, _, fun_mk (st := s_is_less) l3 c3 k3, PySem.W.mg_of X G a3⟩, f_total := ⟨_, _, fun_mk (st := s_total) l4 c4 k4, PySem.W.mg_of X G a4⟩, f_ask := ⟨_, _, fun_mk (st := s_ask) l5 c5 k5, PySem.W.mg_of X G a5⟩, f_ask_fraction := ⟨_, _, fun_mk (st := s_ask_fraction) l6 c6 k6, PySem.W.mg_of X G a6⟩, f_ask_line := ⟨_, _, fun_mk (st := s_ask_line) l7 c7 k7, PySem.W.mg_of X G a7⟩, f_ask_stand := ⟨_, _, fun_mk (st := s_ask_stand) l8 c8 k8, PySem.W.mg_of X G a8⟩, f_ask_rates := ⟨_, _, fun_mk (st := s_ask_rates) l9 c9 k9, PySem.W.mg_of X G a9⟩, f_ask_counts := ⟨_, _, fun_mk (st := s_ask_counts) l10 c10 k10, PySem.W.mg_of X G a10⟩, f_ask_net := ⟨_, _, fun_mk (st := s_ask_net) l11 c11 k11, PySem.W.mg_of X G a11⟩, f_made_net := ⟨_, _, fun_mk (st := s_made_net) l12 c12 k12, PySem.W.mg_of X G a12⟩, f_fraction_text := ⟨_, _, fun_mk (st := s_fraction_text) l13 c13 k13, PySem.W.mg_of X G a13⟩, f_line_row := ⟨_, _, fun_mk (st := s_line_row) l14 c14 k14, PySem.W.mg_of X G a14⟩, f_comer_words := ⟨_, _, fun_mk (st := s_comer_words) l15 c15 k15, PySem.W.mg_of X G a15⟩, f_stand_row := ⟨_, _, fun_mk (st := s_stand_row) l16 c16 k16, PySem.W.mg_of X G a16⟩, f_net_rows := ⟨_, _, fun_mk (st := s_net_rows) l17 c17 k17, PySem.W.mg_of X G a17⟩, f_net_text := ⟨_, _, fun_mk (st := s_net_text) l18 c18 k18, PySem.W.mg_of X G a18⟩, f__law_stream := ⟨_, _, fun_mk (st := s__law_stream) l19 c19 k19, PySem.W.mg_of X G a19⟩, f__law_take := ⟨_, _, fun_mk (st := s__law_take) l20 c20 k20, PySem.W.mg_of X G a20⟩, f__law_fraction := ⟨_, _, fun_mk (st := s__law_fraction) l21 c21 k21, PySem.W.mg_of X G a21⟩, f__law_some := ⟨_, _, fun_mk (st := s__law_some) l22 c22 k22, PySem.W.mg_of X G a22⟩, f__law_line := ⟨_, _, fun_mk (st := s__law_line) l23 c23 k23, PySem.W.mg_of X G a23⟩, f__law_goes := ⟨_, _, fun_mk (st := s__law_goes) l24 c24 k24, PySem.W.mg_of X G a24⟩, f__law_comers := ⟨_, _, fun_mk (st := s__law_comers) l25 c25 k25, PySem.W.mg_of X G a25⟩, f__law_any := ⟨_, _, fun_mk (st := s__law_any) l26 c26 k26, PySem.W.mg_of X G a26⟩, f__law_number := ⟨_, _, fun_mk (st := s__law_number) l27 c27 k27, PySem.W.mg_of X G a27⟩, f__law_line_row := ⟨_, _, fun_mk (st := s__law_line_row) l28 c28 k28, PySem.W.mg_of X G a28⟩, f__law_stand_row := ⟨_, _, fun_mk (st := s__law_stand_row) l29 c29 k29, PySem.W.mg_of X G a29⟩, f__law_rows := ⟨_, _, fun_mk (st := s__law_rows) l30 c30 k30, PySem.W.mg_of X G a30⟩, f__law_text := ⟨_, _, fun_mk (st := s__law_text) l31 c31 k31, PySem.W.mg_of X G a31⟩, f__law_copy := ⟨_, _, fun_mk (st := s__law_copy) l32 c32 k32, PySem.W.mg_of X G a32⟩, f_law := ⟨_, _, fun_mk (st := s_law) l33 c33 k33, PySem.W.mg_of X G a33⟩, b_abs := PySem.W.mg_none_of X G z0, b_enumerate := PySem.W.mg_none_of X G z1, b_isinstance := PySem.W.mg_none_of X G z2, b_len := PySem.W.mg_none_of X G z3, b_list := PySem.W.mg_none_of X G z4, b_max := PySem.W.mg_none_of X G z5, b_min := PySem.W.mg_none_of X G z6, b_range := PySem.W.mg_none_of X G z7, b_sorted := PySem.W.mg_none_of X G z8, b_str := PySem.W.mg_none_of X G z9, b_sum := PySem.W.mg_none_of X G z10, b_zip := PySem.W.mg_none_of X G z11, x_NoFraction := ⟨_, PySem.W.mg_of X G xa0, xe0, xk0, xb0, xt0⟩, x_NoNet := ⟨_, PySem.W.mg_of X G xa1, xe1, xk1, xb1, xt1⟩, c_MOST_COMERS := cn_int (PySem.W.mg_of X G ca0), c_MOST_LINES := cn_int (PySem.W.mg_of X G ca1), c_MOST_ROOM := cn_int (PySem.W.mg_of X G ca2), c_MOST_SPEEDS := cn_int (PySem.W.mg_of X G ca3), c_MOST_STANDS := cn_int (PySem.W.mg_of X G ca4), c_NOUGHT := cn_tup (us := [.int 0 ct5_0, .int 1 ct5_1]) (PySem.W.mg_of X G ca5) cl5 (by simp) (.int (.int .nil)), c_ONE := cn_tup (us := [.int 1 ct6_0, .int 1 ct6_1]) (PySem.W.mg_of X G ca6) cl6 (by simp) (.int (.int .nil)), c_OPEN := cn_str (PySem.W.mg_of X G ca7), c_RULES := cn_tup (us := [.str "stay" ct8_0, .str "lose" ct8_1, .str "skip" ct8_2]) (PySem.W.mg_of X G ca8) cl8 (by simp) (.str (.str (.str .nil))), c_SHUT := cn_str (PySem.W.mg_of X G ca9), c_SIZE := cn_int (PySem.W.mg_of X G ca10) }
  refine ⟨PySem.W.fnOf "law" "law" (defArgs s_law) (defBody s_law) (defScope s_law) .none kV33 dc33 pm33 an33 cd33 ct33, fun s v => .of_eq rfl, fun base _ _ => ?_⟩
  exact law_of (ok_law_at T (fun_mk (st := s_law) l33 c33 k33)) (fun ns _ _ => law_true (ns := ns))
end Wk
end K06
open PySem PySem.W PyProof.Rows
set_option maxHeartbeats 0 in
theorem PySem.Challenge.cw_restlines_k06_texts_holds : PySem.Challenge.rw_restlines_k06_texts.Holds := by
  w_on; o_law; k_head; (case hw => w_witness2)
  k_fill
  refine Dt.walk_g (l := PySem.Challenge.rw_restlines_k06_texts) (n := 63) (k := 40) (x := "_law_script") (sp := fun w => Dt.spL _ 63) rfl (by decide +kernel) rfl (by decide) rfl ⟨rfl, by decide, by decide⟩ (fun w h Y => PySem.W.kIn_of Y) ?F (fun _ _ a ns hl hb hS => ⟨a, ns, rfl, hS, hl, hb, fun _ => rfl⟩)
  case F =>
    intro w mg fa h KX G hmg
    refine' K06.Wk.all_mk (l := PySem.Challenge.rw_restlines_k06_texts) KX G hmg ?a0 ?l0 ?c0 ?k0 ?a1 ?l1 ?c1 ?k1 ?a2 ?l2 ?c2 ?k2 ?a3 ?l3 ?c3 ?k3 ?a4 ?l4 ?c4 ?k4 ?a5 ?l5 ?c5 ?k5 ?a6 ?l6 ?c6 ?k6 ?a7 ?l7 ?c7 ?k7 ?a8 ?l8 ?c8 ?k8 ?a9 ?l9 ?c9 ?k9 ?a10 ?l10 ?c10 ?k10 ?a11 ?l11 ?c11 ?k11 ?a12 ?l12 ?c12 ?k12 ?a13 ?l13 ?c13 ?k13 ?a14 ?l14 ?c14 ?k14 ?a15 ?l15 ?c15 ?k15 ?a16 ?l16 ?c16 ?k16 ?a17 ?l17 ?c17 ?k17 ?a18 ?l18 ?c18 ?k18 ?a19 ?l19 ?c19 ?k19 ?a20 ?l20 ?c20 ?k20 ?a21 ?l21 ?c21 ?k21 ?a22 ?l22 ?c22 ?k22 ?a23 ?l23 ?c23 ?k23 ?a24 ?l24 ?c24 ?k24 ?a25 ?l25 ?c25 ?k25 ?a26 ?l26 ?c26 ?k26 ?a27 ?l27 ?c27 ?k27 ?a28 ?l28 ?c28 ?k28 ?a29 ?l29 ?c29 ?k29 ?a30 ?l30 ?c30 ?k30 ?a31 ?l31 ?c31 ?k31 ?a32 ?l32 ?c32 ?k32 ?a33 ?l33 ?c33 ?k33 ?z0 ?z1 ?z2 ?z3 ?z4 ?z5 ?z6 ?z7 ?z8 ?z9 ?z10 ?z11 ?xa0 ?xe0 ?xk0 ?xb0 ?xt0 ?xa1 ?xe1 ?xk1 ?xb1 ?xt1 ?ca0 ?ca1 ?ca2 ?ca3 ?ca4 ?ca5 ?cl5 ?ca6 ?cl6 ?ca7 ?ca8 ?cl8 ?ca9 ?ca10
    (case a0 | l0 | c0 | k0 | a1 | l1 | c1 | k1 | a2 | l2 | c2 | k2 | a3 | l3 | c3 | k3 | a4 | l4 | c4 | k4 | a5 | l5 | c5 | k5 | a6 | l6 | c6 | k6 | a7 | l7 | c7 | k7 | a8 | l8 | c8 | k8 | a9 | l9 | c9 | k9 | a10 | l10 | c10 | k10 | a11 | l11 | c11 | k11 | a12 | l12 | c12 | k12 | a13 | l13 | c13 | k13 | a14 | l14 | c14 | k14 => k_is)
    (case a15 | l15 | c15 | k15 | a16 | l16 | c16 | k16 | a17 | l17 | c17 | k17 | a18 | l18 | c18 | k18 | a19 | l19 | c19 | k19 | a20 | l20 | c20 | k20 | a21 | l21 | c21 | k21 | a22 | l22 | c22 | k22 | a23 | l23 | c23 | k23 | a24 | l24 | c24 | k24 | a25 | l25 | c25 | k25 | a26 | l26 | c26 | k26 | a27 | l27 | c27 | k27 | a28 | l28 | c28 | k28 | a29 | l29 | c29 | k29 => k_is)
    (case a30 | l30 | c30 | k30 | a31 | l31 | c31 | k31 | a32 | l32 | c32 | k32 | a33 | l33 | c33 | k33 | z0 | z1 | z2 | z3 | z4 | z5 | z6 | z7 | z8 | z9 | z10 | z11 | xa0 => k_is)
    (case xe0 => k_exc)
    (case xk0 | xb0 | xt0 | xa1 => k_is)
    (case xe1 => k_exc)
    (case xk1 | xb1 | xt1 | ca0 | ca1 | ca2 | ca3 | ca4 | ca5 | cl5 | ca6 | cl6 | ca7 | ca8 | cl8 | ca9 | ca10 => k_is)
